import PyProof.Rows.All
import Wide.All
import OpenK.AllK
import Wide.FinOn
import HandS.ForMost
import HandS.SortOrd
import HandS.Deep
import HandS.Wide
import HandS.TupAny
import HandS.TupLe
import HandS.IsInst
import HandS.DictComp
import HandS.Style
import HandS.SortInts
import HandS.SortKw
import HandS.Zip
import HandS.Strs
import KE.GoesEnum
import KE.GoesZip
import KE.SortData
import HandS.DictTup
import HandS.More
import HandS.Remove
import KE.KItemsList
import HandS.TupMul
import PySem.Challenge.RW_sharecords_k09_unknown_strands
set_option Elab.async false
set_option linter.all false
set_option maxRecDepth 100000
/-! Pure values, program states, combinators: the target of the walk. -/
namespace Pu
open PySem

abbrev D := PySem.PyData

/-- a slot of a def's frame: unset; a value that never changes again; a list or dict that only this slot holds; a list lent by the caller -/
inductive Slot where
  | no
  | val (d : D)
  | own (d : D)
  | bor (d : D)
abbrev Rho := List Slot
inductive Out where
  | nx (r : Rho)
  | rt (d : D)
abbrev F1 := Rho → Option D
abbrev FB := Rho → Option Bool
abbrev FA := Rho → Option (List D)
abbrev G := Rho → Option Out
abbrev Fn := List D → Option D

def atR : Rho → Nat → Slot
  | [], _ => .no
  | s :: _, 0 => s
  | _ :: r, n + 1 => atR r n
def isCon : D → Bool
  | .list _ => true
  | .dict _ => true
  | _ => false

/-! ### leaves -/
def fVar (i : Nat) : F1 := fun ρ => match atR ρ i with
  | .val d => some d
  | .bor d => if isCon d then none else some d
  | _ => none
def bVar (i : Nat) : F1 := fun ρ => match atR ρ i with
  | .val d => some d
  | .bor d => some d
  | .own d => some d
  | .no => none
def fK (d : D) : F1 := fun _ => some d
def f1 (op : D → Option D) (a : F1) : F1 := fun ρ => (a ρ).bind op
def f2 (op : D → D → Option D) (a b : F1) : F1 := fun ρ => (a ρ).bind fun x => (b ρ).bind fun y => op x y

/-! ### no dict within -/
mutual
def noDict : D → Bool
  | .dict _ => false
  | .list ds => noDicts ds
  | .tuple ds => noDicts ds
  | .none => true
  | .bool _ => true
  | .int _ => true
  | .str _ => true
def noDicts : List D → Bool
  | [] => true
  | d :: ds => noDict d && noDicts ds
end
def flatD : D → Bool
  | .none => true
  | .bool _ => true
  | .int _ => true
  | .str _ => true
  | _ => false

/-! ### sizes -/
def fitsL (n : Nat) : Bool := decide (n ≤ sizeLine)
def mulOk (i j : Int) : Bool := decide (i.natAbs < 18446744073709551616) || decide (j.natAbs < 18446744073709551616)

/-! ### operators -/
def addD : D → D → Option D
  | .int i, .int j => some (.int (i + j))
  | .list a, .list b => if fitsL (a.length + b.length) then some (.list (a ++ b)) else none
  | .tuple a, .tuple b => if fitsL (a.length + b.length) then some (.tuple (a ++ b)) else none
  | _, _ => none
def subD : D → D → Option D
  | .int i, .int j => some (.int (i - j))
  | _, _ => none
def mulD : D → D → Option D
  | .int i, .int j => if mulOk i j then some (.int (i * j)) else none
  | _, _ => none
def divOk (j : Int) : Bool := decide (0 < j) && decide (j.natAbs < 18446744073709551616)
def divD : D → D → Option D
  | .int i, .int j => if divOk j then some (.int (i / j)) else none
  | _, _ => none
def modD : D → D → Option D
  | .int i, .int j => if decide (0 < j) then some (.int (i % j)) else none
  | _, _ => none
def powD : D → D → Option D
  | .int i, .int j => if decide (0 ≤ j) && decide (j ≤ 1000) && decide (i.natAbs < 18446744073709551616) then some (.int (i ^ j.toNat)) else none
  | _, _ => none
def negD : D → Option D
  | .int i => some (.int (-i))
  | _ => none
def notD : D → Option D
  | .bool b => some (.bool (!b))
  | _ => none

/-! ### comparisons -/
def strLt (x y : Str) : Bool := decide (x.cps.toList < y.cps.toList)
def ltD : D → D → Option D
  | .int i, .int j => some (.bool (decide (i < j)))
  | .str x, .str y => some (.bool (strLt x y))
  | _, _ => none
def leD : D → D → Option D
  | .int i, .int j => some (.bool (decide (i ≤ j)))
  | _, _ => none
def gtD : D → D → Option D
  | .int i, .int j => some (.bool (decide (j < i)))
  | _, _ => none
def geD : D → D → Option D
  | .int i, .int j => some (.bool (decide (j ≤ i)))
  | _, _ => none
def eqOk (x y : D) : Bool := noDict x && noDict y && decide (min x.depth y.depth ≤ 64)
/-- a dict whose keys are ints and texts (one with tuples as keys bears a mark ahead) -/
def notT : List (D × D) → Bool
  | (.none, _) :: _ => false
  | _ => true
/-- == : one of two dicts is empty -/
def eqB : D → D → Option Bool
  | .dict a, .dict b => if notT a && notT b && (a.isEmpty || b.isEmpty) then some (a.isEmpty && b.isEmpty) else none
  | x, y => if eqOk x y then some (PyData.eqv x y) else none
def eqD (x y : D) : Option D := (eqB x y).map .bool
def neD (x y : D) : Option D := (eqB x y).map fun b => .bool (!b)
def isNoneD : D → Option D
  | .none => some (.bool true)
  | _ => some (.bool false)
def notNoneD : D → Option D
  | .none => some (.bool false)
  | _ => some (.bool true)
def isD : D → D → Option D
  | .bool a, .bool b => some (.bool (decide (a = b)))
  | _, _ => none
def isntD : D → D → Option D
  | .bool a, .bool b => some (.bool (!decide (a = b)))
  | _, _ => none
def keyOk : D → Bool
  | .int _ => true
  | .str _ => true
  | _ => false
def inL (x : D) (ds : List D) : Bool := ds.any fun z => PyData.eqv z x
def hasK (kvs : List (D × D)) (k : D) : Bool := kvs.any fun kv => PyData.eqv kv.1 k
def inB : D → D → Option Bool
  | x, .list ds => if (flatD x && ds.all flatD) || (noDict x && noDicts ds && decide (x.depth ≤ 64) && decide ((PyData.list ds).depth ≤ 64)) then some (inL x ds) else none
  | x, .tuple ds => if flatD x && ds.all flatD then some (inL x ds) else none
  | .str x, .str y => some (!(Builtin.Str.occurrences y x 0 y.length 1).isEmpty)
  | x, .dict kvs => if keyOk x && notT kvs then some (hasK kvs x) else none
  | _, _ => none
def inD (x y : D) : Option D := (inB x y).map .bool
def notInD (x y : D) : Option D := (inB x y).map fun b => .bool (!b)

/-! ### subscripts, slices -/
def getK (kvs : List (D × D)) (k : D) : Option D := (kvs.find? fun kv => PyData.eqv kv.1 k).map (·.2)
def ixD : D → D → Option D
  | .list ds, .int i => L2.atI ds i
  | .tuple ds, .int i => L2.atI ds i
  | .dict kvs, k => if keyOk k && notT kvs then getK kvs k else none
  | _, _ => none
def cutL {α : Type} (xs : List α) (lo hi : Option Int) : List α := (xs.drop (HT.sIx xs.length 0 lo)).take (HT.sIx xs.length xs.length hi - HT.sIx xs.length 0 lo)
/-- an optional part of a slice -/
def partO : Option F1 → Rho → Option (Option Int)
  | none, _ => some none
  | some f, ρ => match f ρ with
    | some (.int i) => some (some i)
    | _ => none
def cutD (lo hi : Option Int) : D → Option D
  | .list ds => some (.list (cutL ds lo hi))
  | .tuple ds => some (.tuple (cutL ds lo hi))
  | _ => none
def fCut (a : F1) (lo hi : Option F1) : F1 := fun ρ => (a ρ).bind fun x => (partO lo ρ).bind fun l => (partO hi ρ).bind fun h => cutD l h x
def revD : D → Option D
  | .list ds => some (.list ds.reverse)
  | .tuple ds => some (.tuple ds.reverse)
  | _ => none

/-! ### displays, calls -/
def fArgs : List F1 → FA
  | [], _ => some []
  | f :: fs, ρ => (f ρ).bind fun d => (fArgs fs ρ).bind fun ds => some (d :: ds)
def fTup (fs : List F1) : F1 := fun ρ => (fArgs fs ρ).map .tuple
def fLst (fs : List F1) : F1 := fun ρ => (fArgs fs ρ).map .list
def fCall (m : Fn) (fs : List F1) : F1 := fun ρ => (fArgs fs ρ).bind m
def fB (m : Fn) (fs : List F1) : F1 := fCall m fs

def lenD : D → Option D
  | .list ds => some (.int ds.length)
  | .tuple ds => some (.int ds.length)
  | .str x => if fitsL x.length then some (.int x.length) else none
  | _ => none
def intsL : List D → Option (List Int)
  | [] => some []
  | .int i :: r => (intsL r).map (i :: ·)
  | _ :: _ => none
def strsL : List D → Option (List Str)
  | [] => some []
  | .str i :: r => (strsL r).map (i :: ·)
  | _ :: _ => none
def boolsL : List D → Option (List Bool)
  | [] => some []
  | .bool i :: r => (boolsL r).map (i :: ·)
  | _ :: _ => none
def maxI : List Int → Option Int
  | [] => none
  | [a] => some a
  | a :: r => (maxI r).map fun m => max a m
def minI : List Int → Option Int
  | [] => none
  | [a] => some a
  | a :: r => (minI r).map fun m => min a m
def max2D : D → D → Option D
  | .int i, .int j => some (.int (max i j))
  | _, _ => none
def min2D : D → D → Option D
  | .int i, .int j => some (.int (min i j))
  | _, _ => none
def maxD : D → Option D
  | .list ds => ((intsL ds).bind maxI).map .int
  | _ => none
def minD : D → Option D
  | .list ds => ((intsL ds).bind minI).map .int
  | _ => none
def sumD : D → Option D
  | .list ds => (intsL ds).map fun ns => .int ns.sum
  | _ => none
def allD : D → Option D
  | .list ds => (boolsL ds).map fun bs => .bool (bs.all id)
  | _ => none
def anyD : D → Option D
  | .list ds => (boolsL ds).map fun bs => .bool (bs.any id)
  | _ => none
def tupD : D → Option D
  | .list ds => some (.tuple ds)
  | .tuple ds => some (.tuple ds)
  | _ => none
def lstD : D → Option D
  | .list ds => some (.list ds)
  | .tuple ds => some (.list ds)
  | _ => none
def boolD : D → Option D
  | .int i => some (.bool (i != 0))
  | .bool b => some (.bool b)
  | _ => none
def intD : D → Option D
  | .int i => some (.int i)
  | .bool b => some (.int (if b then 1 else 0))
  | _ => none
/-- isinstance: the types that are asked of -/
inductive Ty where
  | int | bool | str | tuple | list | seq
def isT : Ty → D → Bool
  | .int, .int _ => true
  | .int, .bool _ => true
  | .bool, .bool _ => true
  | .str, .str _ => true
  | .tuple, .tuple _ => true
  | .list, .list _ => true
  | .seq, .list _ => true
  | .seq, .tuple _ => true
  | _, _ => false
def isInst (t : Ty) : D → Option D
  | .dict _ => none
  | d => some (.bool (isT t d))
/-- built-ins by their arguments -/
def m1 (op : D → Option D) : Fn
  | [d] => op d
  | _ => none
def m2 (op : D → D → Option D) : Fn
  | [d, e] => op d e
  | _ => none
def m3 (op : D → D → D → Option D) : Fn
  | [a, b, c] => op a b c
  | _ => none

/-- what a set of such things holds -/
def metD : List D → List D
  | ds => ds.foldl (fun seen d => if inL d seen then seen else seen ++ [d]) []
def lenSetD : D → Option D
  | .list ds => if ds.all keyOk && decide (ds.length < 4000) then some (.int (metD ds).length) else none
  | .tuple ds => if ds.all keyOk && decide (ds.length < 4000) then some (.int (metD ds).length) else none
  | _ => none

/-! ### and, or, if -/
def fAnd (a b : F1) : F1 := fun ρ => match a ρ with
  | some (.bool true) => b ρ
  | some (.bool false) => some (.bool false)
  | _ => none
def fOr (a b : F1) : F1 := fun ρ => match a ρ with
  | some (.bool false) => b ρ
  | some (.bool true) => some (.bool true)
  | _ => none
def tOf (a : F1) : FB := fun ρ => match a ρ with
  | some (.bool b) => some b
  | _ => none
def tAnd (a b : FB) : FB := fun ρ => (a ρ).bind fun x => if x then b ρ else some false
def tOr (a b : FB) : FB := fun ρ => (a ρ).bind fun x => if x then some true else b ρ
def tNot (a : FB) : FB := fun ρ => (a ρ).map not
def tYes : FB := fun _ => some true
def fIf (t : FB) (a b : F1) : F1 := fun ρ => (t ρ).bind fun x => if x then a ρ else b ρ
/-- a < b < c -/
def fChain (o1 o2 : D → D → Option D) (a b c : F1) : F1 := fun ρ => (a ρ).bind fun x => (b ρ).bind fun y => match o1 x y with
  | some (.bool true) => (c ρ).bind fun z => o2 y z
  | some (.bool false) => some (.bool false)
  | _ => none

/-! ### what is walked -/
def sSeq (a : F1) : FA := fun ρ => match a ρ with
  | some (.list ds) => some ds
  | some (.tuple ds) => some ds
  | some (.str x) => some (x.cps.toList.map fun c => .str ⟨#[c]⟩)
  | some (.dict kvs) => if notT kvs then some (kvs.map (·.1)) else none
  | _ => none
def numFrom : Nat → List D → List D
  | _, [] => []
  | n, d :: ds => .tuple [.int n, d] :: numFrom (n + 1) ds
def seqD : D → Option (List D)
  | .list ds => some ds
  | .tuple ds => some ds
  | _ => none
def zipL : List D → List D → List D
  | x :: xs, y :: ys => .tuple [x, y] :: zipL xs ys
  | _, _ => []
def sZip (a b : F1) : FA := fun ρ => ((a ρ).bind seqD).bind fun xs => ((b ρ).bind seqD).map fun ys => zipL xs ys
def sItems (a : F1) : FA := fun ρ => match a ρ with
  | some (.dict kvs) => if notT kvs then some (kvs.map fun kv => .tuple [kv.1, kv.2]) else none
  | _ => none
def rngL : Nat → Int → List D
  | 0, _ => []
  | n + 1, lo => .int lo :: rngL n (lo + 1)
def smallI (i : Int) : Bool := decide (-4611686018427387904 ≤ i) && decide (i < 4611686018427387904)
def sRng (a : F1) : FA := fun ρ => match a ρ with
  | some (.int j) => if smallI j then some (rngL j.toNat 0) else none
  | _ => none
def sRng2 (a b : F1) : FA := fun ρ => match a ρ, b ρ with
  | some (.int i), some (.int j) => if smallI i && smallI j then some (rngL (j - i).toNat i) else none
  | _, _ => none

/-! ### targets -/
abbrev TgF := D → Rho → Option Rho
def gN (i : Nat) : TgF := fun d ρ => some (ρ.set i (.val d))
def gT2 (i j : Nat) : TgF := fun d ρ => match d with
  | .tuple [x, y] => some ((ρ.set i (.val x)).set j (.val y))
  | _ => none
def gT3 (i j k : Nat) : TgF := fun d ρ => match d with
  | .tuple [x, y, z] => some (((ρ.set i (.val x)).set j (.val y)).set k (.val z))
  | _ => none

/-! ### comprehensions -/
def wipeR (ρ : Rho) : List Nat → Rho
  | [] => ρ
  | v :: vs => (wipeR ρ vs).set v .no
/-- all that a comprehension makes of its items -/
def compL (tg : TgF) (t : FB) (e : F1) (ρ : Rho) : List D → Option (List D)
  | [] => some []
  | d :: ds => (tg d ρ).bind fun ρ1 => (t ρ1).bind fun b =>
    if b then (e ρ1).bind fun y => (compL tg t e ρ ds).bind fun r => some (y :: r) else compL tg t e ρ ds
def fLc (vs : List Nat) (src : FA) (tg : TgF) (t : FB) (e : F1) : F1 := fun ρ => (src ρ).bind fun ds => (compL tg t e (wipeR ρ vs) ds).bind fun r =>
  if fitsL r.length then some (.list r) else none
/-- two fors -/
def compL2 (tg : TgF) (t : FB) (vs1 : List Nat) (src1 : FA) (tg1 : TgF) (t1 : FB) (e : F1) (ρ : Rho) : List D → Option (List D)
  | [] => some []
  | d :: ds => (tg d ρ).bind fun ρ1 => (t ρ1).bind fun b =>
    if b then (src1 ρ1).bind fun ds1 => (compL tg1 t1 e (wipeR ρ1 vs1) ds1).bind fun r1 => (compL2 tg t vs1 src1 tg1 t1 e ρ ds).bind fun r => some (r1 ++ r)
    else compL2 tg t vs1 src1 tg1 t1 e ρ ds
def fLc2 (vs : List Nat) (src : FA) (tg : TgF) (t : FB) (vs1 : List Nat) (src1 : FA) (tg1 : TgF) (t1 : FB) (e : F1) : F1 := fun ρ => (src ρ).bind fun ds =>
  (compL2 tg t vs1 src1 tg1 t1 e (wipeR ρ vs) ds).bind fun r => if fitsL r.length then some (.list r) else none

/-! ### dicts -/
def putK (kvs : List (D × D)) (k v : D) : List (D × D) := if hasK kvs k then kvs.map (fun kv => if PyData.eqv kv.1 k then (kv.1, v) else kv) else kvs ++ [(k, v)]
def mergeK (kvs more : List (D × D)) : List (D × D) := more.foldl (fun acc kv => putK acc kv.1 kv.2) kvs

/-! ### statements -/
def gSeq (g h : G) : G := fun ρ => (g ρ).bind fun o => match o with
  | .nx ρ' => h ρ'
  | .rt d => some (.rt d)
def gSkip : G := fun ρ => some (.nx ρ)
def gSet (i : Nat) (f : F1) : G := fun ρ => (f ρ).map fun d => .nx (ρ.set i (.val d))
/-- a new list or dict, held by the slot alone -/
def gOwn (i : Nat) (f : F1) : G := fun ρ => (f ρ).map fun d => .nx (ρ.set i (.own d))
def gAsg (f : F1) (tg : TgF) : G := fun ρ => (f ρ).bind fun d => (tg d ρ).map .nx
def gRet (f : F1) : G := fun ρ => (f ρ).map .rt
def gIf (t : FB) (a b : G) : G := fun ρ => (t ρ).bind fun x => if x then a ρ else b ρ
def forL (tg : TgF) (body : G) : List D → G
  | [], ρ => some (.nx ρ)
  | d :: ds, ρ => (tg d ρ).bind fun ρ1 => (body ρ1).bind fun o => match o with
    | .nx ρ2 => forL tg body ds ρ2
    | .rt r => some (.rt r)
def gFor (src : FA) (tg : TgF) (body : G) : G := fun ρ => (src ρ).bind fun ds => forL tg body ds ρ
def whileN (t : FB) (body : G) : Nat → G
  | 0, _ => none
  | n + 1, ρ => (t ρ).bind fun b => if b then (body ρ).bind fun o => match o with
      | .nx ρ2 => whileN t body n ρ2
      | .rt r => some (.rt r)
    else some (.nx ρ)
def gWhile (n : Nat) (t : FB) (body : G) : G := whileN t body n
/-- from here on the slot's list is a value -/
def gFrz (i : Nat) (g : G) : G := fun ρ => match atR ρ i with
  | .own d => g (ρ.set i (.val d))
  | _ => none
def gApp (i : Nat) (f : F1) : G := fun ρ => (f ρ).bind fun y => match atR ρ i with
  | .own (.list ds) => if decide (ds.length < sizeLine) then some (.nx (ρ.set i (.own (.list (ds ++ [y]))))) else none
  | _ => none
/-- the def's end -/
def endD : Out → D
  | .rt d => d
  | .nx _ => .none
def pad (n : Nat) (ss : List Slot) : Rho := ss ++ List.replicate (n - ss.length) .no
def run (g : G) (n : Nat) (ss : List Slot) : Option D := (g (pad n ss)).map endD
end Pu
set_option maxRecDepth 100000
/-! Pure data as it stands in the abstract heap; what an expression's mirror promises. -/
namespace Pu
open PySem PySem.Spec PyProof.Rows L2

def keyD : L2.Key → D
  | .inl i => .int i
  | .inr x => .str x
mutual
/-- the value v stands for the datum d, by the objects of F -/
inductive Rep (K : PySem.W.Frag) (F : Hp) : V → D → Prop
  | non : Rep K F .non .none
  | bl (b : Bool) : Rep K F (.bl b) (.bool b)
  | int (i : Int) : Rep K F (.int i) (.int i)
  | str (x : Str) : PyData.strOk x = true → Rep K F (.str x) (.str x)
  | lst {a : Addr} {xs : List V} {ds : List D} : SqL K F a xs → Reps K F xs ds → Rep K F (.ref a) (.list ds)
  | tup {a : Addr} {xs : List V} {ds : List D} : F a = some (.tup xs) → Reps K F xs ds → Rep K F (.ref a) (.tuple ds)
  | dK {a : Addr} {o : Obj} {kvs : List (L2.Key × V)} {ds : List (D × D)} : F a = some (.frz o (.dK kvs)) → RepK K F kvs ds → Rep K F (.ref a) (.dict ds)
  | dT {a : Addr} {o : Obj} {kvs : List (List L2.Key × V)} {ds : List (D × D)} : F a = some (.frz o (.dT kvs)) → RepT K F kvs ds → Rep K F (.ref a) (.dict ((.none, .none) :: ds))
inductive Reps (K : PySem.W.Frag) (F : Hp) : List V → List D → Prop
  | nil : Reps K F [] []
  | cons {v : V} {vs : List V} {d : D} {ds : List D} : Rep K F v d → Reps K F vs ds → Reps K F (v :: vs) (d :: ds)
inductive RepK (K : PySem.W.Frag) (F : Hp) : List (L2.Key × V) → List (D × D) → Prop
  | nil : RepK K F [] []
  | cons {k : L2.Key} {v : V} {kvs : List (L2.Key × V)} {d : D} {ds : List (D × D)} : Rep K F (kV k) (keyD k) → Rep K F v d → RepK K F kvs ds → RepK K F ((k, v) :: kvs) ((keyD k, d) :: ds)
inductive RepT (K : PySem.W.Frag) (F : Hp) : List (List L2.Key × V) → List (D × D) → Prop
  | nil : RepT K F [] []
  | cons {k : List L2.Key} {v : V} {kvs : List (List L2.Key × V)} {d : D} {ds : List (D × D)} : Reps K F (k.map kV) (k.map keyD) → Rep K F v d → RepT K F kvs ds → RepT K F ((k, v) :: kvs) ((.tuple (k.map keyD), d) :: ds)
end

theorem Rd.mono {F F' : Hp} {a : Addr} {u : HO} (e : Same F F') (h : Rd F a u) : Rd F' a u := by
  rcases h with h | ⟨o, h⟩
  · exact .inl (e _ _ h)
  · exact .inr ⟨o, e _ _ h⟩
theorem SqT.mono {K : PySem.W.Frag} {F F' : Hp} {a : Addr} {xs : List V} (e : Same F F') (h : SqT K F a xs) : SqT K F' a xs := by
  rcases h with h | h
  · exact .inl (Rd.mono e h)
  · exact .inr h
mutual
theorem Rep.mono {K : PySem.W.Frag} {F F' : Hp} (e : Same F F') : ∀ {v : V} {d : D}, Rep K F v d → Rep K F' v d
  | _, _, .non => .non
  | _, _, .bl b => .bl b
  | _, _, .int i => .int i
  | _, _, .str x h => .str x h
  | _, _, .lst h r => .lst (e.seq h) (Reps.mono e r)
  | _, _, .tup h r => .tup (e _ _ h) (Reps.mono e r)
  | _, _, .dK h r => .dK (e _ _ h) (RepK.mono e r)
  | _, _, .dT h r => .dT (e _ _ h) (RepT.mono e r)
theorem Reps.mono {K : PySem.W.Frag} {F F' : Hp} (e : Same F F') : ∀ {v : List V} {d : List D}, Reps K F v d → Reps K F' v d
  | _, _, .nil => .nil
  | _, _, .cons h r => .cons (Rep.mono e h) (Reps.mono e r)
theorem RepK.mono {K : PySem.W.Frag} {F F' : Hp} (e : Same F F') : ∀ {v : List (L2.Key × V)} {d : List (D × D)}, RepK K F v d → RepK K F' v d
  | _, _, .nil => .nil
  | _, _, .cons k h r => .cons (Rep.mono e k) (Rep.mono e h) (RepK.mono e r)
theorem RepT.mono {K : PySem.W.Frag} {F F' : Hp} (e : Same F F') : ∀ {v : List (List L2.Key × V)} {d : List (D × D)}, RepT K F v d → RepT K F' v d
  | _, _, .nil => .nil
  | _, _, .cons k h r => .cons (Reps.mono e k) (Rep.mono e h) (RepT.mono e r)
end
section
variable {K : PySem.W.Frag} {F F' : Hp}
theorem Reps.length : ∀ {xs : List V} {ds : List D}, Reps K F xs ds → xs.length = ds.length
  | _, _, .nil => rfl
  | _, _, .cons _ r => congrArg (· + 1) (Reps.length r)
theorem Reps.append : ∀ {xs ys : List V} {ds es : List D}, Reps K F xs ds → Reps K F ys es → Reps K F (xs ++ ys) (ds ++ es)
  | _, _, _, _, .nil, h => h
  | _, _, _, _, .cons a r, h => .cons a (Reps.append r h)
theorem Reps.get : ∀ {xs : List V} {ds : List D} {i : Nat} {d : D}, Reps K F xs ds → ds[i]? = some d → ∃ x, xs[i]? = some x ∧ Rep K F x d
  | _, _, _, _, .nil, h => by simp at h
  | _, _, 0, _, .cons a r, h => by simp at h; subst h; exact ⟨_, rfl, a⟩
  | _, _, i + 1, _, .cons a r, h => by
    obtain ⟨x, h1, h2⟩ := Reps.get (i := i) r (by simpa using h)
    exact ⟨x, by simpa using h1, h2⟩
theorem Reps.getV : ∀ {xs : List V} {ds : List D} {i : Nat} {x : V}, Reps K F xs ds → xs[i]? = some x → ∃ d, ds[i]? = some d ∧ Rep K F x d
  | _, _, _, _, .nil, h => by simp at h
  | _, _, 0, _, .cons a r, h => by simp at h; subst h; exact ⟨_, rfl, a⟩
  | _, _, i + 1, _, .cons a r, h => by
    obtain ⟨x, h1, h2⟩ := Reps.getV (i := i) r (by simpa using h)
    exact ⟨x, by simpa using h1, h2⟩
theorem Reps.take : ∀ {xs : List V} {ds : List D} (n : Nat), Reps K F xs ds → Reps K F (xs.take n) (ds.take n)
  | _, _, 0, _ => by simpa using .nil
  | _, _, _ + 1, .nil => .nil
  | _, _, n + 1, .cons a r => .cons a (Reps.take n r)
theorem Reps.drop : ∀ {xs : List V} {ds : List D} (n : Nat), Reps K F xs ds → Reps K F (xs.drop n) (ds.drop n)
  | _, _, 0, r => by simpa using r
  | _, _, _ + 1, .nil => .nil
  | _, _, n + 1, .cons a r => Reps.drop n r
theorem Reps.snoc {xs : List V} {ds : List D} {x : V} {d : D} (r : Reps K F xs ds) (h : Rep K F x d) : Reps K F (xs ++ [x]) (ds ++ [d]) := r.append (.cons h .nil)
theorem Reps.reverse : ∀ {xs : List V} {ds : List D}, Reps K F xs ds → Reps K F xs.reverse ds.reverse
  | _, _, .nil => .nil
  | _, _, .cons a r => by rw [List.reverse_cons, List.reverse_cons]; exact (Reps.reverse r).snoc a
theorem Reps.set : ∀ {xs : List V} {ds : List D} {x : V} {d : D} (i : Nat), Reps K F xs ds → Rep K F x d → Reps K F (xs.set i x) (ds.set i d)
  | _, _, _, _, _, .nil, _ => .nil
  | _, _, _, _, 0, .cons _ r, h => .cons h r
  | _, _, _, _, i + 1, .cons a r, h => .cons a (Reps.set i r h)
theorem Reps.cut {xs : List V} {ds : List D} (r : Reps K F xs ds) (lo hi : Option Int) : Reps K F (cutV xs lo hi) (cutL ds lo hi) := by
  unfold cutV cutL
  rw [r.length]
  exact Reps.take _ (Reps.drop _ r)
theorem Reps.intsL : ∀ {xs : List V} {ds : List D} {ns : List Int}, Reps K F xs ds → Pu.intsL ds = some ns → xs = ns.map V.int
  | _, _, _, .nil, h => by cases h; rfl
  | _, _, _, .cons (d := d) a r, h => by
    cases a <;> simp only [Pu.intsL] at h <;> first | (cases h; done) | skip
    obtain ⟨ms, h1, h2⟩ := Option.map_eq_some_iff.mp h
    subst h2
    rw [Reps.intsL r h1]; rfl
theorem Reps.strsL : ∀ {xs : List V} {ds : List D} {ns : List Str}, Reps K F xs ds → Pu.strsL ds = some ns → xs = ns.map V.str
  | _, _, _, .nil, h => by cases h; rfl
  | _, _, _, .cons (d := d) a r, h => by
    cases a <;> simp only [Pu.strsL] at h <;> first | (cases h; done) | skip
    obtain ⟨ms, h1, h2⟩ := Option.map_eq_some_iff.mp h
    subst h2
    rw [Reps.strsL r h1]; rfl
theorem Reps.boolsL : ∀ {xs : List V} {ds : List D} {ns : List Bool}, Reps K F xs ds → Pu.boolsL ds = some ns → xs = ns.map V.bl
  | _, _, _, .nil, h => by cases h; rfl
  | _, _, _, .cons (d := d) a r, h => by
    cases a <;> simp only [Pu.boolsL] at h <;> first | (cases h; done) | skip
    obtain ⟨ms, h1, h2⟩ := Option.map_eq_some_iff.mp h
    subst h2
    rw [Reps.boolsL r h1]; rfl

/-! ### data without dicts, for == -/
mutual
theorem Rep.dp : ∀ {v : V} {d : D}, Rep K F v d → noDict d = true → Dp K F v d
  | _, _, .non, _ => .non
  | _, _, .bl b, _ => .bl b
  | _, _, .int i, _ => .int i
  | _, _, .str x _, _ => .str x
  | _, _, .lst h r, n => .lst h (Reps.dp r (by simpa [noDict] using n))
  | _, _, .tup h r, n => .tup (.of h) (Reps.dp r (by simpa [noDict] using n))
  | _, _, .dK _ _, n => by simp [noDict] at n
  | _, _, .dT _ _, n => by simp [noDict] at n
theorem Reps.dp : ∀ {v : List V} {d : List D}, Reps K F v d → noDicts d = true → DpAll K F v d
  | _, _, .nil, _ => .nil
  | _, _, .cons h r, n => by
    simp only [noDicts, Bool.and_eq_true] at n
    exact .cons (Rep.dp h n.1) (Reps.dp r n.2)
end
mutual
theorem Rep.canLay : ∀ {v : V} {d : D}, Rep K F v d → noDict d = true → d.canLay0 = true
  | _, _, .non, _ => by simp [PyData.canLay0]
  | _, _, .bl b, _ => by simp [PyData.canLay0]
  | _, _, .int i, _ => by simp [PyData.canLay0]
  | _, _, .str x h, _ => by simpa [PyData.canLay0] using h
  | _, _, .lst h r, n => by
    simp only [PyData.canLay0]
    exact Reps.canLay r (by simpa [noDict] using n)
  | _, _, .tup h r, n => by
    simp only [PyData.canLay0]
    exact Reps.canLay r (by simpa [noDict] using n)
  | _, _, .dK _ _, n => by simp [noDict] at n
  | _, _, .dT _ _, n => by simp [noDict] at n
theorem Reps.canLay : ∀ {v : List V} {d : List D}, Reps K F v d → noDicts d = true → PyData.canLayAll0 d = true
  | _, _, .nil, _ => by simp [PyData.canLayAll0]
  | _, _, .cons h r, n => by
    simp only [noDicts, Bool.and_eq_true] at n
    simp only [PyData.canLayAll0, Bool.and_eq_true]
    exact ⟨Rep.canLay h n.1, Reps.canLay r n.2⟩
end
end

/-! ### heaps that grow -/
structure Ext (H F H' F' : Hp) : Prop where
  h : Same H H'
  f : Same F F'
  sub : Same F' H'
  new : ∀ a o, F' a = some o → F a = some o ∨ H a = none
theorem Ext.refl {H F : Hp} (s : Same F H) : Ext H F H F := ⟨Same.refl H, Same.refl F, s, fun _ _ h => .inl h⟩
theorem Ext.trans {H F H1 F1 H2 F2 : Hp} (a : Ext H F H1 F1) (b : Ext H1 F1 H2 F2) : Ext H F H2 F2 :=
  ⟨a.h.trans b.h, a.f.trans b.f, b.sub, fun x o h => by
    rcases b.new x o h with h | h
    · exact a.new x o h
    · exact .inr (a.h.free h)⟩
/-- a new object -/
theorem Ext.laid {H F : Hp} (s : Same F H) {p : Addr} (o : HO) (hp : H p = none) : Ext H F (upd H p o) (upd F p o) := by
  have hf : F p = none := s.free hp
  refine ⟨fun b u h => by rw [upd_ne (ne_of_none h hp)]; exact h, fun b u h => by rw [upd_ne (ne_of_none h hf)]; exact h, fun b u h => ?_, fun b u h => ?_⟩
  · by_cases e : b = p
    · subst e; rw [upd_same] at h ⊢; exact h
    · rw [upd_ne e] at h ⊢; exact s _ _ h
  · by_cases e : b = p
    · subst e; exact .inr hp
    · rw [upd_ne e] at h; exact .inl h
/-- the abstract heap alone grows -/
theorem Ext.aside {H F H' : Hp} (s : Same F H) (g : Same H H') : Ext H F H' F := ⟨g, Same.refl F, s.trans g, fun _ _ h => .inl h⟩
theorem same_upd {H : Hp} {p : Addr} {o : HO} (h : H p = none) : Same H (upd H p o) := fun b u e => by
  rw [upd_ne (ne_of_none e h)]; exact e

/-! ### what only one slot holds -/
def RepO (K : PySem.W.Frag) (F : Hp) : HO → D → Prop
  | .lst xs, .list ds => Reps K F xs ds
  | .dK kvs, .dict ds => RepK K F kvs ds
  | .dT kvs, .dict ((.none, .none) :: ds) => RepT K F kvs ds
  | _, _ => False
theorem RepO.mono {K : PySem.W.Frag} {F F' : Hp} (e : Same F F') : ∀ {o : HO} {d : D}, RepO K F o d → RepO K F' o d := by
  intro o d h
  unfold RepO at h ⊢
  split at h
  · exact h.mono e
  · exact h.mono e
  · exact h.mono e
  · exact h.elim
/-- the value is d: by frozen objects, but for its own top -/
def RepB (K : PySem.W.Frag) (H F : Hp) (v : V) (d : D) : Prop := Rep K F v d ∨ ∃ p o, v = .ref p ∧ H p = some o ∧ RepO K F o d
theorem RepB.mono {K : PySem.W.Frag} {H H' F F' : Hp} (e : Same H H') (f : Same F F') {v : V} {d : D} (h : RepB K H F v d) : RepB K H' F' v d := by
  rcases h with h | ⟨p, o, h1, h2, h3⟩
  · exact .inl (h.mono f)
  · exact .inr ⟨p, o, h1, e _ _ h2, h3.mono f⟩
theorem RepB.rep {K : PySem.W.Frag} {H F : Hp} {v : V} {d : D} (h : RepB K H F v d) (c : isCon d = false) : Rep K F v d := by
  rcases h with h | ⟨p, o, h1, h2, h3⟩
  · exact h
  · exfalso
    unfold RepO at h3
    split at h3 <;> first | exact h3.elim | (simp [isCon] at c)
/-- all of it by the whole heap -/
theorem RepB.list {K : PySem.W.Frag} {H F : Hp} {v : V} {ds : List D} (h : RepB K H F v (.list ds)) (s : Same F H) : ∃ a xs, v = .ref a ∧ SqL K H a xs ∧ Reps K F xs ds := by
  rcases h with h | ⟨p, o, h1, h2, h3⟩
  · cases h with
    | lst h r => exact ⟨_, _, rfl, s.seq h, r⟩
  · unfold RepO at h3
    split at h3
    · rename_i xs ds' e
      cases e
      exact ⟨p, xs, h1, .inl (.inl h2), h3⟩
    · rename_i e; cases e
    · rename_i e; cases e
    · exact h3.elim
theorem RepB.tuple {K : PySem.W.Frag} {H F : Hp} {v : V} {ds : List D} (h : RepB K H F v (.tuple ds)) (s : Same F H) : ∃ a xs, v = .ref a ∧ F a = some (.tup xs) ∧ SqT K H a xs ∧ Reps K F xs ds := by
  have q := h.rep rfl
  cases q with
  | tup q r => exact ⟨_, _, rfl, q, .of (s _ _ q), r⟩

/-! ### a def's state -/
def SlotOk (K : PySem.W.Frag) (H0 H F : Hp) : Slot → Option V → Prop
  | .no, _ => True
  | .val d, x => ∃ v, x = some v ∧ Rep K F v d
  | .own d, x => ∃ p o, x = some (.ref p) ∧ F p = none ∧ H0 p = none ∧ H p = some o ∧ RepO K F o d
  | .bor d, x => ∃ v, x = some v ∧ RepB K H0 F v d
structure St (K : PySem.W.Frag) (H0 F0 H F : Hp) (σ : L2.St) (ρ : Rho) : Prop where
  h : Same H0 H
  f : Same F0 F
  sub : Same F H
  new : ∀ a o, F a = some o → F0 a = some o ∨ H0 a = none
  len : ρ.length = σ.length
  sl : ∀ (i : Nat) (s : Slot) (x : Option V), ρ[i]? = some s → σ[i]? = some x → SlotOk K H0 H F s x
  dj : ∀ (i j : Nat) (di dj : D) (p : Addr), i ≠ j → ρ[i]? = some (.own di) → ρ[j]? = some (.own dj) → σ[i]? = some (some (.ref p)) → σ[j]? ≠ some (some (.ref p))
theorem atR_eq : ∀ (ρ : Rho) (i : Nat), atR ρ i = (ρ[i]?).getD .no
  | [], i => by cases i <;> rfl
  | s :: r, 0 => rfl
  | s :: r, i + 1 => by
    show atR r i = _
    rw [atR_eq r i]; simp
section
variable {K : PySem.W.Frag} {H0 F0 H F H' F' : Hp} {σ : L2.St} {ρ : Rho}
theorem St.ext (S : St K H0 F0 H F σ ρ) (e : Ext H F H' F') : St K H0 F0 H' F' σ ρ := by
  refine ⟨S.h.trans e.h, S.f.trans e.f, e.sub, fun a o q => ?_, S.len, fun i s x h1 h2 => ?_, S.dj⟩
  · rcases e.new a o q with q | q
    · exact S.new a o q
    · exact .inr (S.h.free q)
  · have q := S.sl i s x h1 h2
    cases s with
    | no => trivial
    | val d =>
      obtain ⟨v, e1, r⟩ := q
      exact ⟨v, e1, r.mono e.f⟩
    | own d =>
      obtain ⟨p, o, e1, f0, h0, hp, r⟩ := q
      refine ⟨p, o, e1, ?_, h0, e.h _ _ hp, r.mono e.f⟩
      cases z : F' p with
      | none => rfl
      | some u =>
        rcases e.new p u z with z | z
        · rw [f0] at z; cases z
        · rw [hp] at z; cases z
    | bor d =>
      obtain ⟨v, e1, r⟩ := q
      exact ⟨v, e1, r.mono (Same.refl _) e.f⟩
theorem St.at (S : St K H0 F0 H F σ ρ) {i : Nat} {s : Slot} (h : atR ρ i = s) (n : s ≠ .no) : ρ[i]? = some s ∧ ∃ x, σ[i]? = some x ∧ SlotOk K H0 H F s x := by
  rw [atR_eq] at h
  cases e : ρ[i]? with
  | none => rw [e] at h; exact absurd h.symm n
  | some s' =>
    rw [e] at h
    have h' : s' = s := h
    subst h'
    have hl : i < σ.length := by
      rw [← S.len]
      exact (List.getElem?_eq_some_iff.mp e).1
    refine ⟨rfl, σ[i], by simp [hl], S.sl i s' _ e (by simp [hl])⟩
theorem St.var (S : St K H0 F0 H F σ ρ) {i : Nat} {d : D} (h : fVar i ρ = some d) : ∃ v, σ[i]? = some (some v) ∧ Rep K F v d := by
  unfold fVar at h
  cases e : atR ρ i with
  | no => rw [e] at h; cases h
  | val d' =>
    rw [e] at h
    cases h
    obtain ⟨_, x, h1, v, h2, r⟩ := S.at e (by simp)
    exact ⟨v, by rw [h1, h2], r⟩
  | own d' => rw [e] at h; cases h
  | bor d' =>
    rw [e] at h
    obtain ⟨_, x, h1, v, h2, r⟩ := S.at e (by simp)
    dsimp only at h
    split at h
    · cases h
    · rename_i c
      cases h
      refine ⟨v, by rw [h1, h2], ?_⟩
      exact r.rep (by simpa using c)
theorem St.varB (S : St K H0 F0 H F σ ρ) {i : Nat} {d : D} (h : bVar i ρ = some d) : ∃ v, σ[i]? = some (some v) ∧ RepB K H F v d := by
  unfold bVar at h
  cases e : atR ρ i with
  | no => rw [e] at h; cases h
  | val d' =>
    rw [e] at h
    cases h
    obtain ⟨_, x, h1, v, h2, r⟩ := S.at e (by simp)
    exact ⟨v, by rw [h1, h2], .inl r⟩
  | own d' =>
    rw [e] at h
    cases h
    obtain ⟨_, x, h1, p, o, h2, _, _, h3, r⟩ := S.at e (by simp)
    exact ⟨_, by rw [h1, h2], .inr ⟨p, o, rfl, h3, r⟩⟩
  | bor d' =>
    rw [e] at h
    cases h
    obtain ⟨_, x, h1, v, h2, r⟩ := S.at e (by simp)
    exact ⟨v, by rw [h1, h2], r.mono S.h (Same.refl _)⟩
/-- a value stored -/
theorem St.set (S : St K H0 F0 H F σ ρ) (i : Nat) {v : V} {d : D} (r : Rep K F v d) : St K H0 F0 H F (σ.set i (some v)) (ρ.set i (.val d)) := by
  refine ⟨S.h, S.f, S.sub, S.new, by simp [S.len], fun j s x h1 h2 => ?_, fun j k dj dk p hjk h1 h2 h3 => ?_⟩
  · by_cases e : i = j
    · subst e
      have hl : i < ρ.length := by
        have := (List.getElem?_eq_some_iff.mp h1).1
        simpa using this
      rw [List.getElem?_set_self hl] at h1
      rw [List.getElem?_set_self (by rw [← S.len]; exact hl)] at h2
      cases h1; cases h2
      exact ⟨v, rfl, r⟩
    · rw [List.getElem?_set_ne e] at h1 h2
      exact S.sl j s x h1 h2
  · have nj : i ≠ j := by
      intro e; subst e
      have hl : i < ρ.length := by
        have := (List.getElem?_eq_some_iff.mp h1).1
        simpa using this
      rw [List.getElem?_set_self hl] at h1; cases h1
    have nk : i ≠ k := by
      intro e; subst e
      have hl : i < ρ.length := by
        have := (List.getElem?_eq_some_iff.mp h2).1
        simpa using this
      rw [List.getElem?_set_self hl] at h2; cases h2
    rw [List.getElem?_set_ne nj] at h1 h3
    rw [List.getElem?_set_ne nk] at h2 ⊢
    exact S.dj j k dj dk p hjk h1 h2 h3
/-- a new object stored: only this slot has it -/
theorem St.setOwn (S : St K H0 F0 H F σ ρ) (i : Nat) {p : Addr} {o : HO} {d : D} (hp : H p = none) (r : RepO K F o d) : St K H0 F0 (upd H p o) F (σ.set i (some (.ref p))) (ρ.set i (.own d)) := by
  have old : ∀ (j : Nat) (dj : D), ρ[j]? = some (.own dj) → σ[j]? ≠ some (some (.ref p)) := fun j dj h1 h2 => by
    obtain ⟨q, u, e, _, _, hq, _⟩ := S.sl j _ _ h1 h2
    cases e
    rw [hp] at hq; cases hq
  refine ⟨S.h.trans (same_upd hp), S.f, S.sub.trans (same_upd hp), S.new, by simp [S.len], fun j s x h1 h2 => ?_, fun j k dj dk q hjk h1 h2 h3 h4 => ?_⟩
  · by_cases e : i = j
    · subst e
      have hl : i < ρ.length := by
        have := (List.getElem?_eq_some_iff.mp h1).1
        simpa using this
      rw [List.getElem?_set_self hl] at h1
      rw [List.getElem?_set_self (by rw [← S.len]; exact hl)] at h2
      cases h1; cases h2
      exact ⟨p, o, rfl, S.sub.free hp, S.h.free hp, upd_same, r⟩
    · rw [List.getElem?_set_ne e] at h1 h2
      have q := S.sl j s x h1 h2
      cases s with
      | no => trivial
      | val d => exact q
      | bor d => exact q
      | own d =>
        obtain ⟨q, u, e1, f0, h0, hq, r'⟩ := q
        exact ⟨q, u, e1, f0, h0, same_upd hp _ _ hq, r'⟩
  · by_cases ej : i = j
    · subst ej
      have hl : i < ρ.length := by
        have := (List.getElem?_eq_some_iff.mp h1).1
        simpa using this
      rw [List.getElem?_set_self (by rw [← S.len]; exact hl)] at h3
      cases h3
      rw [List.getElem?_set_ne hjk] at h2 h4
      exact old k dk h2 h4
    · rw [List.getElem?_set_ne ej] at h1 h3
      by_cases ek : i = k
      · subst ek
        have hl : i < ρ.length := by
          have := (List.getElem?_eq_some_iff.mp h2).1
          simpa using this
        rw [List.getElem?_set_self (by rw [← S.len]; exact hl)] at h4
        cases h4
        exact old j dj h1 h3
      · rw [List.getElem?_set_ne ek] at h2 h4
        exact S.dj j k dj dk q hjk h1 h2 h3 h4
/-- the object of an own slot is changed -/
theorem St.change (S : St K H0 F0 H F σ ρ) {i : Nat} {p : Addr} {o' : HO} {d d' : D} (hi : ρ[i]? = some (.own d)) (hσ : σ[i]? = some (some (.ref p))) (r : RepO K F o' d') : St K H0 F0 (upd H p o') F σ (ρ.set i (.own d')) := by
  obtain ⟨p', o, e, f0, h0, hp, _⟩ := S.sl i _ _ hi hσ
  cases e
  have hl : i < ρ.length := (List.getElem?_eq_some_iff.mp hi).1
  refine ⟨fun b u q => ?_, S.f, fun b u q => ?_, S.new, by simp [S.len], fun j s x h1 h2 => ?_, fun j k dj dk q hjk h1 h2 h3 h4 => ?_⟩
  · rw [upd_ne (ne_of_none q h0)]; exact S.h _ _ q
  · rw [upd_ne (ne_of_none q f0)]; exact S.sub _ _ q
  · by_cases e : i = j
    · subst e
      rw [List.getElem?_set_self hl] at h1
      rw [hσ] at h2
      cases h1; cases h2
      exact ⟨p, o', rfl, f0, h0, upd_same, r⟩
    · rw [List.getElem?_set_ne e] at h1
      have q := S.sl j s x h1 h2
      cases s with
      | no => trivial
      | val d => exact q
      | bor d => exact q
      | own d2 =>
        obtain ⟨q, u, e1, f1, h1', hq, r'⟩ := q
        refine ⟨q, u, e1, f1, h1', ?_, r'⟩
        rw [upd_ne ?_]
        · exact hq
        · intro z
          subst z
          exact S.dj i j d d2 q e hi h1 hσ (by rw [h2, e1])
  · have aux : ∀ (m : Nat) (dm : D), (ρ.set i (.own d'))[m]? = some (.own dm) → ∃ dm', ρ[m]? = some (.own dm') := fun m dm z => by
      by_cases e : i = m
      · subst e; exact ⟨d, hi⟩
      · rw [List.getElem?_set_ne e] at z; exact ⟨dm, z⟩
    obtain ⟨x1, z1⟩ := aux j dj h1
    obtain ⟨x2, z2⟩ := aux k dk h2
    exact S.dj j k x1 x2 q hjk z1 z2 h3 h4
theorem St.wipe (S : St K H0 F0 H F σ ρ) : ∀ vs : List Nat, St K H0 F0 H F (L2.wipe σ vs) (wipeR ρ vs)
  | [] => S
  | v :: vs => by
    have S1 := St.wipe S vs
    unfold L2.wipe wipeR
    refine ⟨S1.h, S1.f, S1.sub, S1.new, by simp [S1.len], fun j s x h1 h2 => ?_, fun j k dj dk p hjk h1 h2 h3 => ?_⟩
    · by_cases e : v = j
      · subst e
        have hl : v < (wipeR ρ vs).length := by
          have := (List.getElem?_eq_some_iff.mp h1).1
          simpa using this
        rw [List.getElem?_set_self hl] at h1
        cases h1
        trivial
      · rw [List.getElem?_set_ne e] at h1 h2
        exact S1.sl j s x h1 h2
    · have nj : v ≠ j := by
        intro e; subst e
        have hl : v < (wipeR ρ vs).length := by
          have := (List.getElem?_eq_some_iff.mp h1).1
          simpa using this
        rw [List.getElem?_set_self hl] at h1; cases h1
      have nk : v ≠ k := by
        intro e; subst e
        have hl : v < (wipeR ρ vs).length := by
          have := (List.getElem?_eq_some_iff.mp h2).1
          simpa using this
        rw [List.getElem?_set_self hl] at h2; cases h2
      rw [List.getElem?_set_ne nj] at h1 h3
      rw [List.getElem?_set_ne nk] at h2 ⊢
      exact S1.dj j k dj dk p hjk h1 h2 h3
end
end Pu
set_option maxRecDepth 100000
/-! What an expression's mirror promises; the rules of expressions. -/
namespace Pu
open PySem PySem.Spec PyProof.Rows L2

/-! ### the judgements -/
def tX (K : PySem.W.Frag) (f : F1) : TE := fun σ H Q => ∃ (H0 F0 F : Hp) (ρ : Rho) (d : D), St K H0 F0 H F σ ρ ∧ f ρ = some d ∧ ∀ H' F' v, Ext H F H' F' → Rep K F' v d → Q v H'
def tBw (K : PySem.W.Frag) (f : F1) : TE := fun σ H Q => ∃ (H0 F0 F : Hp) (ρ : Rho) (d : D), St K H0 F0 H F σ ρ ∧ f ρ = some d ∧ ∀ H' F' v, Ext H F H' F' → RepB K H' F' v d → Q v H'
def tTs (K : PySem.W.Frag) (f : FB) : TT := fun σ H Q => ∃ (H0 F0 F : Hp) (ρ : Rho) (b : Bool), St K H0 F0 H F σ ρ ∧ f ρ = some b ∧ ∀ H' F', Ext H F H' F' → Q b H'
/-- arguments: true where the list may be lent -/
inductive RepsM (K : PySem.W.Frag) (H F : Hp) : List Bool → List V → List D → Prop
  | nil : RepsM K H F [] [] []
  | val {v : V} {vs : List V} {d : D} {ds : List D} {ms : List Bool} : Rep K F v d → RepsM K H F ms vs ds → RepsM K H F (false :: ms) (v :: vs) (d :: ds)
  | bor {v : V} {vs : List V} {d : D} {ds : List D} {ms : List Bool} : RepB K H F v d → RepsM K H F ms vs ds → RepsM K H F (true :: ms) (v :: vs) (d :: ds)
theorem RepsM.mono {K : PySem.W.Frag} {H F H' F' : Hp} (e : Same H H') (f : Same F F') : ∀ {ms : List Bool} {vs : List V} {ds : List D}, RepsM K H F ms vs ds → RepsM K H' F' ms vs ds
  | _, _, _, .nil => .nil
  | _, _, _, .val h r => .val (h.mono f) (RepsM.mono e f r)
  | _, _, _, .bor h r => .bor (h.mono e f) (RepsM.mono e f r)
theorem RepsM.length {K : PySem.W.Frag} {H F : Hp} : ∀ {ms : List Bool} {vs : List V} {ds : List D}, RepsM K H F ms vs ds → vs.length = ms.length
  | _, _, _, .nil => rfl
  | _, _, _, .val _ r => congrArg (· + 1) (RepsM.length r)
  | _, _, _, .bor _ r => congrArg (· + 1) (RepsM.length r)
theorem RepsM.reps {K : PySem.W.Frag} {H F : Hp} : ∀ {ms : List Bool} {vs : List V} {ds : List D}, RepsM K H F ms vs ds → (∀ b ∈ ms, b = false) → Reps K F vs ds
  | _, _, _, .nil, _ => .nil
  | _, _, _, .val h r, q => .cons h (RepsM.reps r fun b hb => q b (List.mem_cons_of_mem _ hb))
  | _, _, _, .bor h r, q => by have := q true List.mem_cons_self; cases this
def tAr (K : PySem.W.Frag) (ms : List Bool) (f : FA) : TA := fun σ H Q => ∃ (H0 F0 F : Hp) (ρ : Rho) (ds : List D), St K H0 F0 H F σ ρ ∧ f ρ = some ds ∧ ∀ H' F' vs, Ext H F H' F' → RepsM K H' F' ms vs ds → Q vs H'

abbrev PX (X : Cx) (e : Expr) (f : F1) : Prop := PE X e (tX X.K f)
abbrev PB (X : Cx) (e : Expr) (f : F1) : Prop := PE X e (tBw X.K f)
abbrev PTs' (X : Cx) (e : Expr) (f : FB) : Prop := PT X e (tTs X.K f)
abbrev PWs (X : Cx) (e : Expr) (f : FB) : Prop := PW X e (tTs X.K f)
abbrev PAr (X : Cx) (es : List Expr) (ms : List Bool) (f : FA) : Prop := PA X es (tAr X.K ms f)

theorem peImp {X : Cx} {e : Expr} {t t' : TE} (h : PE X e t) (w : ∀ σ H Q, t' σ H Q → t σ H Q) : PE X e t' := ⟨fun pins s σ H Q I q => h.run pins s σ H Q I (w _ _ _ q)⟩
theorem ptImp {X : Cx} {e : Expr} {t t' : TT} (h : PT X e t) (w : ∀ σ H Q, t' σ H Q → t σ H Q) : PT X e t' := ⟨fun pins s σ H Q I q => h.run pins s σ H Q I (w _ _ _ q)⟩
theorem pwImp {X : Cx} {e : Expr} {t t' : TT} (h : PW X e t) (w : ∀ σ H Q, t' σ H Q → t σ H Q) : PW X e t' := ⟨fun wh pins s σ H Q I q => h.run wh pins s σ H Q I (w _ _ _ q)⟩
theorem paImp {X : Cx} {e : List Expr} {t t' : TA} (h : PA X e t) (w : ∀ σ H Q, t' σ H Q → t σ H Q) : PA X e t' := ⟨fun pos pins s σ H Q I q => h.run pos pins s σ H Q I (w _ _ _ q)⟩
section
variable {X : Cx} {e a b c : Expr} {f g h : F1} {pos : Pos}
theorem PX.toB (p : PX X e f) : PB X e f := peImp p fun σ H Q ⟨H0, F0, F, ρ, d, S, hd, q⟩ => ⟨H0, F0, F, ρ, d, S, hd, fun H' F' v x r => q H' F' v x (.inl r)⟩

/-! ### leaves -/
theorem x_var (i : Nat) {x : Str} (hN : X.N[i]? = some x := by rfl) (hv : Vis X.env.scope x := by first | exact Or.inl rfl | exact Or.inr (Or.inl rfl) | exact Or.inr (Or.inr rfl)) (hd : (x == ("__debug__" : Str)) = false := by decide)
    (hcd : (x == ("__classdict__" : Str)) = false := by decide) : PX X (.Name x pos) (fVar i) := peImp (pv i hN hv hd hcd) fun σ H Q ⟨H0, F0, F, ρ, d, S, hd, q⟩ => by
  obtain ⟨v, h1, r⟩ := S.var hd
  exact ⟨v, h1, q H F v (Ext.refl S.sub) r⟩
theorem b_var (i : Nat) {x : Str} (hN : X.N[i]? = some x := by rfl) (hv : Vis X.env.scope x := by first | exact Or.inl rfl | exact Or.inr (Or.inl rfl) | exact Or.inr (Or.inr rfl)) (hd : (x == ("__debug__" : Str)) = false := by decide)
    (hcd : (x == ("__classdict__" : Str)) = false := by decide) : PB X (.Name x pos) (bVar i) := peImp (pv i hN hv hd hcd) fun σ H Q ⟨H0, F0, F, ρ, d, S, hd, q⟩ => by
  obtain ⟨v, h1, r⟩ := S.varB hd
  exact ⟨v, h1, q H F v (Ext.refl S.sub) r⟩
theorem x_c {v : V} {d : D} (hp : PE X e (tC v)) (r : ∀ F, Rep X.K F v d) : PX X e (fK d) := peImp hp fun σ H Q ⟨H0, F0, F, ρ, d', S, hd, q⟩ => by
  cases hd
  exact q H F v (Ext.refl S.sub) (r F)
theorem x_int {i : Int} {j : Nat} : PX X (.Constant (.int i) j pos) (fK (.int i)) := x_c pe_int fun _ => .int i
theorem x_bl {i : Bool} {j : Nat} : PX X (.Constant (.bool i) j pos) (fK (.bool i)) := x_c pe_bl fun _ => .bl i
theorem x_non {j : Nat} : PX X (.Constant .none j pos) (fK .none) := x_c pe_non fun _ => .non
theorem x_str {i : Str} {j : Nat} (h : PyData.strOk i = true := by decide +kernel) : PX X (.Constant (.str i) j pos) (fK (.str i)) := x_c pe_str fun _ => .str i h

/-! ### operators by values -/
def Sem2 (K : PySem.W.Frag) (r : R2) (op : D → D → Option D) : Prop := ∀ (H F : Hp) (x y : D) (vx vy : V) (d : D) (Q : VK), Same F H → RepB K H F vx x → RepB K H F vy y → op x y = some d →
  (∀ H' F' v, Ext H F H' F' → Rep K F' v d → Q v H') → r vx vy H Q
def Sem1 (K : PySem.W.Frag) (r : V → Hp → VK → Prop) (op : D → Option D) : Prop := ∀ (H F : Hp) (x : D) (vx : V) (d : D) (Q : VK), Same F H → RepB K H F vx x → op x = some d →
  (∀ H' F' v, Ext H F H' F' → Rep K F' v d → Q v H') → r vx H Q
theorem f2_some {op : D → D → Option D} {ρ : Rho} {d : D} (h : f2 op f g ρ = some d) : ∃ x y, f ρ = some x ∧ g ρ = some y ∧ op x y = some d := by
  unfold f2 at h
  obtain ⟨x, h1, h2⟩ := Option.bind_eq_some_iff.mp h
  obtain ⟨y, h3, h4⟩ := Option.bind_eq_some_iff.mp h2
  exact ⟨x, y, h1, h3, h4⟩
theorem f1_some {op : D → Option D} {ρ : Rho} {d : D} (h : f1 op f ρ = some d) : ∃ x, f ρ = some x ∧ op x = some d := Option.bind_eq_some_iff.mp h
theorem bin_go {K : PySem.W.Frag} {r : R2} {op : D → D → Option D} (sem : Sem2 K r op) : ∀ σ H Q, tX K (f2 op f g) σ H Q → tOp r (tBw K f) (tBw K g) σ H Q := fun σ H Q ⟨H0, F0, F, ρ, d, S, hd, q⟩ => by
  obtain ⟨x, y, hx, hy, hop⟩ := f2_some hd
  refine ⟨H0, F0, F, ρ, x, S, hx, fun H1 F1 v e1 r1 => ⟨H0, F0, F1, ρ, y, S.ext e1, hy, fun H2 F2 w e2 r2 => ?_⟩⟩
  exact sem H2 F2 x y v w d Q e2.sub (r1.mono e2.h e2.f) r2 hop fun H3 F3 u e3 r3 => q H3 F3 u ((e1.trans e2).trans e3) r3
theorem x_op {op : Operator} {r : R2} {o : D → D → Option D} (ho : OpR X (binaryOp op) r) (sem : Sem2 X.K r o) (ha : PB X a f) (hb : PB X b g) : PX X (.BinOp a op b pos) (f2 o f g) := peImp (pe_op ho ha hb) (bin_go sem)
theorem x_cmp {op : CmpOp} {r : R2} {o : D → D → Option D} (ho : OpR X (compareOp op) r) (sem : Sem2 X.K r o) (hm : behindInMarks op b = false) (ha : PB X a f) (hb : PB X b g) : PX X (.Compare a [op] [b] pos) (f2 o f g) := peImp (pe_cmpR ho ha hb hm) (bin_go sem)
theorem x_un {op : UnaryOp} {r : V → Hp → VK → Prop} {o : D → Option D} (ho : UnR X (unaryOp op) r) (sem : Sem1 X.K r o) (ha : PB X a f) : PX X (.UnaryOp op a pos) (f1 o f) := peImp (pe_un ho ha) fun σ H Q ⟨H0, F0, F, ρ, d, S, hd, q⟩ => by
  obtain ⟨x, hx, hop⟩ := f1_some hd
  refine ⟨H0, F0, F, ρ, x, S, hx, fun H1 F1 v e1 r1 => ?_⟩
  exact sem H1 F1 x v d Q e1.sub r1 hop fun H3 F3 u e3 r3 => q H3 F3 u (e1.trans e3) r3
end

section
variable {K : PySem.W.Frag} {H F : Hp}
theorem RepB.int {v : V} {i : Int} (h : RepB K H F v (.int i)) : v = .int i := by
  cases h.rep rfl; rfl
theorem RepB.bool {v : V} {i : Bool} (h : RepB K H F v (.bool i)) : v = .bl i := by
  cases h.rep rfl; rfl
theorem RepB.str {v : V} {i : Str} (h : RepB K H F v (.str i)) : v = .str i ∧ PyData.strOk i = true := by
  cases h.rep rfl
  exact ⟨rfl, by assumption⟩
theorem RepB.none {v : V} (h : RepB K H F v .none) : v = .non := by
  cases h.rep rfl; rfl
/-- a result that is not made of objects -/
theorem same_q {Q : VK} {v : V} {d : D} (s : Same F H) (q : ∀ H' F' v, Ext H F H' F' → Rep K F' v d → Q v H') (r : Rep K F v d) : Q v H := q H F v (Ext.refl s) r
theorem new_lst {Q : VK} {xs : List V} {ds : List D} (s : Same F H) (q : ∀ H' F' v, Ext H F H' F' → Rep K F' v (.list ds) → Q v H') (r : Reps K F xs ds) : ∀ p, H p = none → Q (.ref p) (upd H p (.lst xs)) := fun p hp =>
  q _ _ _ (Ext.laid s (.lst xs) hp) (.lst (.inl (.inl upd_same)) (r.mono (same_upd (s.free hp))))
theorem new_tup {Q : VK} {xs : List V} {ds : List D} (s : Same F H) (q : ∀ H' F' v, Ext H F H' F' → Rep K F' v (.tuple ds) → Q v H') (r : Reps K F xs ds) : ∀ p, H p = none → Q (.ref p) (upd H p (.tup xs)) := fun p hp =>
  q _ _ _ (Ext.laid s (.tup xs) hp) (.tup upd_same (r.mono (same_upd (s.free hp))))

theorem sem_int {C : Int → Int → Prop} {gi : Int → Int → Int} {o : D → D → Option D} (h : ∀ x y d, o x y = some d → ∃ i j, x = .int i ∧ y = .int j ∧ C i j ∧ d = .int (gi i j)) : Sem2 K (rI C fun i j => .int (gi i j)) o := fun H F x y vx vy d Q s rx ry hd q => by
  obtain ⟨i, j, rfl, rfl, hc, rfl⟩ := h x y d hd
  exact ⟨i, j, rx.int, ry.int, hc, same_q s q (.int _)⟩
theorem sem_int0 {gi : Int → Int → Int} {o : D → D → Option D} (h : ∀ x y d, o x y = some d → ∃ i j, x = .int i ∧ y = .int j ∧ d = .int (gi i j)) : Sem2 K (rI0 fun i j => .int (gi i j)) o := fun H F x y vx vy d Q s rx ry hd q => by
  obtain ⟨i, j, rfl, rfl, rfl⟩ := h x y d hd
  exact ⟨i, j, rx.int, ry.int, same_q s q (.int _)⟩
theorem sem_bool0 {gi : Int → Int → Bool} {o : D → D → Option D} (h : ∀ x y d, o x y = some d → ∃ i j, x = .int i ∧ y = .int j ∧ d = .bool (gi i j)) : Sem2 K (rI0 fun i j => .bl (gi i j)) o := fun H F x y vx vy d Q s rx ry hd q => by
  obtain ⟨i, j, rfl, rfl, rfl⟩ := h x y d hd
  exact ⟨i, j, rx.int, ry.int, same_q s q (.bl _)⟩
theorem sem_sub : Sem2 K (rI0 fun i j => .int (i - j)) subD := sem_int0 fun x y d h => by
  unfold subD at h; split at h
  · cases h; exact ⟨_, _, rfl, rfl, rfl⟩
  · cases h
theorem mulOk_of {i j : Int} (h : mulOk i j = true) : CMul i j := by
  unfold mulOk at h
  rw [Bool.or_eq_true, decide_eq_true_eq, decide_eq_true_eq] at h
  rcases h with h | h
  · exact .inl (by omega)
  · exact .inr (by omega)
theorem sem_mul : Sem2 K (rI CMul fun i j => .int (i * j)) mulD := sem_int fun x y d h => by
  unfold mulD at h; split at h
  · split at h
    · rename_i hc
      cases h; exact ⟨_, _, rfl, rfl, mulOk_of hc, rfl⟩
    · cases h
  · cases h
theorem log2_64 {n : Nat} (h : n < 18446744073709551616) : n.log2 < 64 := by
  by_cases h0 : n = 0
  · subst h0; decide
  · exact (Nat.log2_lt h0).mpr h
theorem sem_div : Sem2 K (rI CDivW fun i j => .int (i / j)) divD := sem_int fun x y d h => by
  unfold divD at h; split at h
  · split at h
    · rename_i hc
      cases h
      unfold divOk at hc
      rw [Bool.and_eq_true, decide_eq_true_eq, decide_eq_true_eq] at hc
      refine ⟨_, _, rfl, rfl, ⟨hc.1, Nat.lt_of_lt_of_le (log2_64 hc.2) (by decide)⟩, rfl⟩
    · cases h
  · cases h
theorem sem_mod : Sem2 K (rI (fun _ j => 0 < j) fun i j => .int (i % j)) modD := sem_int fun x y d h => by
  unfold modD at h; split at h
  · split at h
    · rename_i hc
      cases h
      rw [decide_eq_true_eq] at hc
      exact ⟨_, _, rfl, rfl, hc, rfl⟩
    · cases h
  · cases h
theorem sem_pow : Sem2 K (rI CPow fun i j => .int (i ^ j.toNat)) powD := sem_int fun x y d h => by
  unfold powD at h; split at h
  · split at h
    · rename_i hc
      cases h
      rw [Bool.and_eq_true, Bool.and_eq_true, decide_eq_true_eq, decide_eq_true_eq, decide_eq_true_eq] at hc
      exact ⟨_, _, rfl, rfl, ⟨hc.1.1, by omega, by omega⟩, rfl⟩
    · cases h
  · cases h
theorem sem_neg : Sem1 K (rU fun i => .int (-i)) negD := fun H F x vx d Q s rx hd q => by
  unfold negD at hd; split at hd
  · cases hd
    exact ⟨_, rx.int, same_q s q (.int _)⟩
  · cases hd
theorem sem_le : Sem2 K (rI0 fun i j => .bl (decide (i ≤ j))) leD := sem_bool0 fun x y d h => by
  unfold leD at h; split at h
  · cases h; exact ⟨_, _, rfl, rfl, rfl⟩
  · cases h
theorem sem_gt : Sem2 K (rI0 fun i j => .bl (decide (j < i))) gtD := sem_bool0 fun x y d h => by
  unfold gtD at h; split at h
  · cases h; exact ⟨_, _, rfl, rfl, rfl⟩
  · cases h
theorem sem_ge : Sem2 K (rI0 fun i j => .bl (decide (j ≤ i))) geD := sem_bool0 fun x y d h => by
  unfold geD at h; split at h
  · cases h; exact ⟨_, _, rfl, rfl, rfl⟩
  · cases h
def rLtIS : R2 := fun x y H Q => (∃ i j, x = .int i ∧ y = .int j ∧ Q (.bl (decide (i < j))) H) ∨ (∃ i j, x = .str i ∧ y = .str j ∧ Q (.bl (decide (i.cps.toList < j.cps.toList))) H)
theorem op_ltIS {X : Cx} : OpR X (compareOp .Lt) rLtIS := OpR.or op_lt op_lt_str
theorem sem_lt : Sem2 K rLtIS ltD := fun H F x y vx vy d Q s rx ry hd q => by
  unfold ltD at hd; split at hd
  · cases hd; exact .inl ⟨_, _, rx.int, ry.int, same_q s q (.bl _)⟩
  · cases hd; exact .inr ⟨_, _, rx.str.1, ry.str.1, same_q s q (.bl _)⟩
  · cases hd

/-! ### + -/
def rCatL (K : PySem.W.Frag) : R2 := fun x y H Q => ∃ l b xs zs, x = .ref l ∧ y = .ref b ∧ SqL K H l xs ∧ SqL K H b zs ∧ xs.length + zs.length ≤ sizeLine ∧ ∀ p, H p = none → Q (.ref p) (upd H p (.lst (xs ++ zs)))
theorem op_catL {X : Cx} : OpR X (binaryOp .Add) (rCatL X.K) := by
  intro pins s σ H x y v u Q I rx ry h
  obtain ⟨l, b, xs, zs, rfl, rfl, hH, hB, hz, q⟩ := h
  cases rx
  cases ry
  obtain ⟨its, r, ⟨⟨cls, dd, data, sl⟩, n, ho, hc, _, hd⟩, _⟩ := I.list hH
  obtain ⟨its2, r2, ⟨⟨cls2, dd2, data2, sl2⟩, n2, ho2, hc2, _, hd2⟩, _⟩ := I.list hB
  simp only at hc hd hc2 hd2
  subst hc hd hc2 hd2
  have hl := r.length
  have hl2 := r2.length
  have e : its.toArray ++ its2.toArray = (its ++ its2).toArray := by simp
  refine concat_meets ⟨_, ho, rfl⟩ ⟨_, ho2, rfl⟩ noFill_list_add seq_list_add PySem.F.slot_list_add PySem.F.entry_list_add (PySem.F.args_list_add_2 _ _) (list_addW l b its.toArray its2.toArray n n2 dd dd2 sl sl2 (by rw [List.size_toArray, List.size_toArray]; omega)) ⟨ho, ho2, ?_⟩
  rw [e]
  exact ⟨.ref _, _, I.lnew (t' := s.toks) (r.append r2) (by rw [List.length_append]; omega), rfl, q _ I.fresh⟩
def rAddAll (K : PySem.W.Frag) : R2 := fun x y H Q => (rI0 (fun i j => .int (i + j)) x y H Q ∨ rCatL K x y H Q) ∨ rCatA K x y H Q
theorem op_addAll {X : Cx} : OpR X (binaryOp .Add) (rAddAll X.K) := OpR.or (OpR.or op_add op_catL) op_catA
theorem sem_add : Sem2 K (rAddAll K) addD := fun H F x y vx vy d Q s rx ry hd q => by
  unfold addD at hd; split at hd
  · cases hd; exact .inl (.inl ⟨_, _, rx.int, ry.int, same_q s q (.int _)⟩)
  · split at hd
    · rename_i hc
      cases hd
      unfold fitsL at hc
      rw [decide_eq_true_eq] at hc
      obtain ⟨a, xs, rfl, h1, r1⟩ := rx.list s
      obtain ⟨b, ys, rfl, h2, r2⟩ := ry.list s
      refine .inl (.inr ⟨a, b, xs, ys, rfl, rfl, h1, h2, ?_, new_lst s q (r1.append r2)⟩)
      rw [r1.length, r2.length]; exact hc
    · cases hd
  · split at hd
    · rename_i hc
      cases hd
      unfold fitsL at hc
      rw [decide_eq_true_eq] at hc
      obtain ⟨a, xs, rfl, f1, h1, r1⟩ := rx.tuple s
      obtain ⟨b, ys, rfl, f2, h2, r2⟩ := ry.tuple s
      refine .inr ⟨a, b, xs, ys, rfl, rfl, h1, h2, ?_, fun e => ?_, fun _ e => ?_, fun _ _ => new_tup s q (r1.append r2)⟩
      · rw [r1.length, r2.length]; exact hc
      · subst e
        cases r1
        exact same_q s q (.tup f2 r2)
      · subst e
        cases r2
        rw [List.append_nil] at q
        exact same_q s q (.tup f1 r1)
    · cases hd
  · cases hd
end

section
variable {X : Cx} {a b : Expr} {f g : F1} {pos : Pos}
theorem x_add (ha : PB X a f) (hb : PB X b g) : PX X (.BinOp a .Add b pos) (f2 addD f g) := x_op op_addAll sem_add ha hb
theorem x_sub (ha : PB X a f) (hb : PB X b g) : PX X (.BinOp a .Sub b pos) (f2 subD f g) := x_op op_sub sem_sub ha hb
theorem x_mul (ha : PB X a f) (hb : PB X b g) : PX X (.BinOp a .Mult b pos) (f2 mulD f g) := x_op op_mul sem_mul ha hb
theorem x_div (ha : PB X a f) (hb : PB X b g) : PX X (.BinOp a .FloorDiv b pos) (f2 divD f g) := x_op op_fdivW sem_div ha hb
theorem x_mod (ha : PB X a f) (hb : PB X b g) : PX X (.BinOp a .Mod b pos) (f2 modD f g) := x_op op_mod sem_mod ha hb
theorem x_pow (ha : PB X a f) (hb : PB X b g) : PX X (.BinOp a .Pow b pos) (f2 powD f g) := x_op op_pow sem_pow ha hb
theorem x_neg (ha : PB X a f) : PX X (.UnaryOp .USub a pos) (f1 negD f) := x_un un_neg sem_neg ha
theorem x_lt (ha : PB X a f) (hb : PB X b g) : PX X (.Compare a [.Lt] [b] pos) (f2 ltD f g) := x_cmp op_ltIS sem_lt (nomark _) ha hb
theorem x_le (ha : PB X a f) (hb : PB X b g) : PX X (.Compare a [.LtE] [b] pos) (f2 leD f g) := x_cmp op_le sem_le (nomark _) ha hb
theorem x_gt (ha : PB X a f) (hb : PB X b g) : PX X (.Compare a [.Gt] [b] pos) (f2 gtD f g) := x_cmp op_gt sem_gt (nomark _) ha hb
theorem x_ge (ha : PB X a f) (hb : PB X b g) : PX X (.Compare a [.GtE] [b] pos) (f2 geD f g) := x_cmp op_ge sem_ge (nomark _) ha hb
end
end Pu
set_option maxRecDepth 100000
/-! Equality, membership, tests, subscripts, displays, calls. -/
namespace Pu
open PySem PySem.Spec PyProof.Rows L2

/-! ### keys -/
theorem eqv_keyD : ∀ a b : L2.Key, PyData.eqv (keyD a) (keyD b) = decide (a = b)
  | .inl i, .inl j => by
    show PyData.eqv (.int i) (.int j) = _
    rw [show PyData.eqv (.int i) (.int j) = (i == j) by simp [PyData.eqv], key_ll]
  | .inr x, .inr y => by
    show PyData.eqv (.str x) (.str y) = _
    rw [show PyData.eqv (.str x) (.str y) = (x == y) by simp [PyData.eqv], key_rr, Bool.beq_eq_decide_eq]
  | .inl i, .inr y => by
    rw [show PyData.eqv (keyD (.inl i)) (keyD (.inr y)) = false by simp [keyD, PyData.eqv]]; simp
  | .inr i, .inl y => by
    rw [show PyData.eqv (keyD (.inr i)) (keyD (.inl y)) = false by simp [keyD, PyData.eqv]]; simp
section
variable {K : PySem.W.Frag} {H F : Hp}
theorem rep_key {v : V} {d : D} (h : Rep K F v d) (k : keyOk d = true) : ∃ x : L2.Key, v = kV x ∧ d = keyD x := by
  cases h with
  | int i => exact ⟨.inl i, rfl, rfl⟩
  | str x _ => exact ⟨.inr x, rfl, rfl⟩
  | _ => simp [keyOk] at k
theorem RepK.look {k : L2.Key} : ∀ {kvs : List (L2.Key × V)} {ds : List (D × D)}, RepK K F kvs ds → (∀ v, valV kvs k = some v → ∃ d, getK ds (keyD k) = some d ∧ Rep K F v d) ∧ (valV kvs k = none → getK ds (keyD k) = none ∧ hasK ds (keyD k) = false) ∧ (valV kvs k).isSome = hasK ds (keyD k)
  | _, _, .nil => ⟨fun v h => (by cases h), fun _ => ⟨rfl, rfl⟩, rfl⟩
  | _, _, .cons (k := k') (v := v) (kvs := kvs) (d := d) (ds := ds) _ r t => by
    obtain ⟨h1, h2, h3⟩ := RepK.look (k := k) t
    by_cases e : k' = k
    · subst e
      have e1 : getK ((keyD k', d) :: ds) (keyD k') = some d := by
        unfold getK; rw [List.find?_cons]; simp [eqv_keyD]
      have e2 : hasK ((keyD k', d) :: ds) (keyD k') = true := by
        unfold hasK; rw [List.any_cons]; simp [eqv_keyD]
      rw [e1, e2, valV_pos (p := (k', v)) rfl]
      exact ⟨fun w h => by cases h; exact ⟨d, rfl, r⟩, fun h => (by cases h), rfl⟩
    · have e1 : getK ((keyD k', d) :: ds) (keyD k) = getK ds (keyD k) := by
        unfold getK; rw [List.find?_cons]; simp [eqv_keyD, e]
      have e2 : hasK ((keyD k', d) :: ds) (keyD k) = hasK ds (keyD k) := by
        unfold hasK; rw [List.any_cons]; simp [eqv_keyD, e]
      rw [e1, e2, valV_neg (p := (k', v)) e]
      exact ⟨h1, h2, h3⟩
theorem RepK.notT : ∀ {kvs : List (L2.Key × V)} {ds : List (D × D)}, RepK K F kvs ds → notT ds = true
  | _, _, .nil => rfl
  | _, _, .cons (k := k) _ _ _ => by cases k <;> rfl
/-- a dict that is read -/
theorem RepB.dict {v : V} {ds : List (D × D)} (h : RepB K H F v (.dict ds)) (s : Same F H) (n : notT ds = true) : ∃ a kvs, v = .ref a ∧ Rd H a (.dK kvs) ∧ RepK K F kvs ds := by
  rcases h with h | ⟨p, o, h1, h2, h3⟩
  · cases h with
    | dK h r => exact ⟨_, _, rfl, .inr ⟨_, s _ _ h⟩, r⟩
    | dT h r => exact absurd (show false = true from n) Bool.false_ne_true
  · unfold RepO at h3
    split at h3
    · rename_i e; cases e
    · rename_i kvs ds' e
      cases e
      exact ⟨p, kvs, h1, .inl h2, h3⟩
    · rename_i e
      cases e
      exact absurd (show false = true from n) Bool.false_ne_true
    · exact h3.elim
/-- data without dicts, by the whole heap -/
theorem RepB.dp {v : V} {d : D} (h : RepB K H F v d) (s : Same F H) (n : noDict d = true) : Dp K H v d ∧ d.canLay0 = true := by
  rcases h with h | ⟨p, o, h1, h2, h3⟩
  · exact ⟨(h.mono s).dp n, h.canLay n⟩
  · unfold RepO at h3
    split at h3
    · rename_i xs ds
      subst h1
      have n' : noDicts ds = true := by simpa [noDict] using n
      refine ⟨.lst (.of h2) ((h3.mono s).dp n'), ?_⟩
      simp only [PyData.canLay0]
      exact h3.canLay n'
    · simp [noDict] at n
    · simp [noDict] at n
    · exact h3.elim
end

/-! ### ==, != -/
def rEqW (K : PySem.W.Frag) (neg : Bool) : R2 := fun x y H Q => ∃ d e, Dp K H x d ∧ Dp K H y e ∧ d.canLay0 = true ∧ e.canLay0 = true ∧ min d.depth e.depth ≤ 64 ∧ Q (.bl (if neg then !PyData.eqv d e else PyData.eqv d e)) H
def rEqZ (neg : Bool) : R2 := fun x y H Q => ∃ (a b : Addr) (ks ls : List (L2.Key × V)), x = .ref a ∧ y = .ref b ∧ Rd H a (.dK ks) ∧ Rd H b (.dK ls) ∧ (ks.isEmpty || ls.isEmpty) = true ∧ Q (.bl (if neg then !(ks.isEmpty && ls.isEmpty) else (ks.isEmpty && ls.isEmpty))) H
section
variable {X : Cx}
theorem op_eqW (hu : X.A.units + 64 < cLine) : OpR X (compareOp .Eq) (rEqW X.K false) := by
  intro pins s σ H x y v u Q I rx ry h
  obtain ⟨d, e, hd, he, sd, se, hm, q⟩ := h
  obtain ⟨as, r1⟩ := Dp.reads I d x v hd rx
  obtain ⟨bs, r2⟩ := Dp.reads I e y u he ry
  exact SeqAt.compareEq_reads r1 r2 sd se (by omega) ⟨.bl _, H, I, rfl, q⟩
theorem op_neW (hu : X.A.units + 64 < cLine) : OpR X (compareOp .NotEq) (rEqW X.K true) := by
  intro pins s σ H x y v u Q I rx ry h
  obtain ⟨d, e, hd, he, sd, se, hm, q⟩ := h
  obtain ⟨as, r1⟩ := Dp.reads I d x v hd rx
  obtain ⟨bs, r2⟩ := Dp.reads I e y u he ry
  exact SeqAt.compareNe_reads r1 r2 sd se (by omega) ⟨.bl _, H, I, rfl, q⟩
theorem hits_empty {va vb : List (L2.Key × Value)} {A : Around} {s : Shared} (h : va = [] ∨ vb = []) (hl : va.length = vb.length) : PySem.W.KeqHits A s vb va true := by
  have : va = [] := by
    rcases h with h | h
    · exact h
    · subst h; simpa using hl
  subst this
  exact .nil
theorem len_empty {ks ls : List (L2.Key × V)} {va vb : List (L2.Key × Value)} (ra : KV ks va) (rb : KV ls vb) (h : (ks.isEmpty || ls.isEmpty) = true) : (va = [] ∨ vb = []) ∧ (va.length == vb.length && true) = (ks.isEmpty && ls.isEmpty) := by
  have h1 : ks.isEmpty = true ∨ ls.isEmpty = true := by simpa using h
  have h2 := ra.length
  have h3 := rb.length
  cases va with
  | nil =>
    cases ra
    cases vb with
    | nil => cases rb; exact ⟨.inl rfl, rfl⟩
    | cons z t =>
      cases rb
      exact ⟨.inl rfl, rfl⟩
  | cons z t =>
    cases ra
    cases vb with
    | nil => cases rb; exact ⟨.inr rfl, rfl⟩
    | cons z t => cases rb; simp at h1
theorem op_eqZ (hu : X.A.units + 64 < cLine) : OpR X (compareOp .Eq) (rEqZ false) := by
  intro pins s σ H x y v u Q I rx ry h
  obtain ⟨a, b, ks, ls, rfl, rfl, ea, eb, he, q⟩ := h
  obtain rfl : v = Value.ref a := rx
  obtain rfl : u = Value.ref b := ry
  obtain ⟨_, ya, va, ra, da⟩ := dk_rd I.hok ea
  obtain ⟨_, yb, vb, rb, db⟩ := dk_rd I.hok eb
  obtain ⟨h1, h2⟩ := len_empty ra rb he
  exact PySem.W.keq_eq (knd := mixKind X.prog X.w) (r := true) ya yb da db (by omega) (fun hl => hits_empty h1 hl) (fin_bl I q h2.symm)
theorem op_neZ (hu : X.A.units + 64 < cLine) : OpR X (compareOp .NotEq) (rEqZ true) := by
  intro pins s σ H x y v u Q I rx ry h
  obtain ⟨a, b, ks, ls, rfl, rfl, ea, eb, he, q⟩ := h
  obtain rfl : v = Value.ref a := rx
  obtain rfl : u = Value.ref b := ry
  obtain ⟨_, ya, va, ra, da⟩ := dk_rd I.hok ea
  obtain ⟨_, yb, vb, rb, db⟩ := dk_rd I.hok eb
  obtain ⟨h1, h2⟩ := len_empty ra rb he
  exact PySem.W.keq_ne (knd := mixKind X.prog X.w) (r := true) ya yb da db (by omega) (fun hl => hits_empty h1 hl) (fin_bl I q (by rw [h2]; rfl))
end
theorem RepK.isEmpty {K : PySem.W.Frag} {F : Hp} {kvs : List (L2.Key × V)} {ds : List (D × D)} (r : RepK K F kvs ds) : kvs.isEmpty = ds.isEmpty := by
  cases r <;> rfl
theorem eqB_data {x y : D} {b : Bool} (h : eqB x y = some b) : (eqOk x y = true ∧ b = PyData.eqv x y) ∨ ∃ k l, x = .dict k ∧ y = .dict l ∧ (notT k && notT l && (k.isEmpty || l.isEmpty)) = true ∧ b = (k.isEmpty && l.isEmpty) := by
  unfold eqB at h
  split at h
  · split at h
    · cases h; exact .inr ⟨_, _, rfl, rfl, by assumption, rfl⟩
    · cases h
  · split at h
    · cases h; exact .inl ⟨by assumption, rfl⟩
    · cases h
theorem sem_eqAny {K : PySem.W.Frag} {neg : Bool} {o : D → D → Option D} (ho : ∀ x y d, o x y = some d → ∃ b, eqB x y = some b ∧ d = .bool (if neg then !b else b)) : Sem2 K (fun x y H Q => rEqW K neg x y H Q ∨ rEqZ neg x y H Q) o := fun H F x y vx vy d Q s rx ry hd q => by
  obtain ⟨b, hb, rfl⟩ := ho x y d hd
  rcases eqB_data hb with ⟨hk, rfl⟩ | ⟨k, l, rfl, rfl, hk, rfl⟩
  · unfold eqOk at hk
    simp only [Bool.and_eq_true, decide_eq_true_eq] at hk
    obtain ⟨d1, c1⟩ := rx.dp s hk.1.1
    obtain ⟨d2, c2⟩ := ry.dp s hk.1.2
    exact .inl ⟨x, y, d1, d2, c1, c2, hk.2, same_q s q (.bl _)⟩
  · simp only [Bool.and_eq_true] at hk
    obtain ⟨a, kvs, rfl, e1, r1⟩ := rx.dict s hk.1.1
    obtain ⟨a2, kvs2, rfl, e2, r2⟩ := ry.dict s hk.1.2
    refine .inr ⟨a, a2, kvs, kvs2, rfl, rfl, e1, e2, ?_, ?_⟩
    · rw [r1.isEmpty, r2.isEmpty]; exact hk.2
    · rw [r1.isEmpty, r2.isEmpty]
      exact same_q s q (.bl _)
theorem sem_eq {K : PySem.W.Frag} : Sem2 K (fun x y H Q => rEqW K false x y H Q ∨ rEqZ false x y H Q) eqD := sem_eqAny fun x y d h => by
  obtain ⟨b, h1, h2⟩ := Option.map_eq_some_iff.mp h
  exact ⟨b, h1, h2.symm⟩
theorem sem_ne {K : PySem.W.Frag} : Sem2 K (fun x y H Q => rEqW K true x y H Q ∨ rEqZ true x y H Q) neD := sem_eqAny fun x y d h => by
  obtain ⟨b, h1, h2⟩ := Option.map_eq_some_iff.mp h
  exact ⟨b, h1, h2.symm⟩

/-! ### is -/
section
variable {K : PySem.W.Frag}
def rIsB (neg : Bool) : R2 := fun x y H Q => ∃ a b : Bool, x = .bl a ∧ y = .bl b ∧ Q (.bl (if neg then !decide (a = b) else decide (a = b))) H
theorem sem_is : Sem2 K L2.rIsB isD := fun H F x y vx vy d Q s rx ry hd q => by
  unfold isD at hd; split at hd
  · cases hd; exact ⟨_, _, rx.bool, ry.bool, same_q s q (.bl _)⟩
  · cases hd
theorem sem_isnt : Sem2 K L2.rNotB isntD := fun H F x y vx vy d Q s rx ry hd q => by
  unfold isntD at hd; split at hd
  · cases hd; exact ⟨_, _, rx.bool, ry.bool, same_q s q (.bl _)⟩
  · cases hd
theorem RepB.isNon {H F : Hp} {v : V} {d : D} (h : RepB K H F v d) : decide (v = .non) = (match d with | .none => true | _ => false) := by
  rcases h with h | ⟨p, o, rfl, _, h3⟩
  · cases h <;> simp
  · unfold RepO at h3
    split at h3 <;> first | exact h3.elim | simp
end
section
variable {X : Cx} {a b : Expr} {f g : F1} {pos : Pos}
theorem x_eq (hu : X.A.units + 64 < cLine) (ha : PB X a f) (hb : PB X b g) : PX X (.Compare a [.Eq] [b] pos) (f2 eqD f g) := x_cmp (OpR.or (op_eqW hu) (op_eqZ hu)) sem_eq (nomark _) ha hb
theorem x_ne (hu : X.A.units + 64 < cLine) (ha : PB X a f) (hb : PB X b g) : PX X (.Compare a [.NotEq] [b] pos) (f2 neD f g) := x_cmp (OpR.or (op_neW hu) (op_neZ hu)) sem_ne (nomark _) ha hb
theorem x_is (ha : PB X a f) (hb : PB X b g) : PX X (.Compare a [.Is] [b] pos) (f2 isD f g) := x_cmp op_isBl sem_is (nomark _) ha hb
theorem x_isnt (ha : PB X a f) (hb : PB X b g) : PX X (.Compare a [.IsNot] [b] pos) (f2 isntD f g) := x_cmp op_notBl sem_isnt (nomark _) ha hb
theorem x_isN {j : Nat} {pos' : Pos} (ha : PB X a f) : PX X (.Compare a [.Is] [.Constant .none j pos'] pos) (f1 isNoneD f) := peImp (pe_cmp (pc_isN ha)) fun σ H Q ⟨H0, F0, F, ρ, d, S, hd, q⟩ => by
  obtain ⟨x, hx, hop⟩ := f1_some hd
  refine ⟨H0, F0, F, ρ, x, S, hx, fun H1 F1 v e1 r1 => ?_⟩
  show Q (.bl (decide (v = .non))) H1
  rw [r1.isNon]
  cases x <;> cases hop <;> exact q H1 F1 _ e1 (.bl _)
theorem x_notN {j : Nat} {pos' : Pos} (ha : PB X a f) : PX X (.Compare a [.IsNot] [.Constant .none j pos'] pos) (f1 notNoneD f) := peImp (pe_cmp (pc_notN ha)) fun σ H Q ⟨H0, F0, F, ρ, d, S, hd, q⟩ => by
  obtain ⟨x, hx, hop⟩ := f1_some hd
  refine ⟨H0, F0, F, ρ, x, S, hx, fun H1 F1 v e1 r1 => ?_⟩
  show Q (.bl (!decide (v = .non))) H1
  rw [r1.isNon]
  cases x <;> cases hop <;> exact q H1 F1 _ e1 (.bl _)
end

/-! ### in, not in -/
theorem flatV_of {K : PySem.W.Frag} {F : Hp} {v : V} {d : D} (h : Rep K F v d) (c : flatD d = true) : flatV v = true := by
  cases h <;> first | rfl | simp [flatD] at c
theorem flatD_con {d : D} (c : flatD d = true) : isCon d = false := by cases d <;> first | rfl | simp [flatD] at c
theorem eqV_of {K : PySem.W.Frag} {F : Hp} {v w : V} {d e : D} (h : Rep K F v d) (h' : Rep K F w e) (c : flatD d = true) (c' : flatD e = true) : eqV v w = PyData.eqv d e := by
  cases h <;> first | (simp [flatD] at c; done) | (cases h' <;> first | (simp [flatD] at c'; done) | (simp [eqV, PyData.eqv]; done) | (simp [eqV, PyData.eqv, Bool.beq_eq_decide_eq]; done) | rfl)
theorem inV_of {K : PySem.W.Frag} {F : Hp} {v : V} {d : D} (h : Rep K F v d) (c : flatD d = true) : ∀ {xs : List V} {ds : List D}, Reps K F xs ds → ds.all flatD = true → inV v xs = inL d ds ∧ xs.all flatV = true
  | _, _, .nil, _ => ⟨rfl, rfl⟩
  | _, _, .cons (v := y) (vs := ys) (d := e) (ds := es) r t, q => by
    rw [List.all_cons, Bool.and_eq_true] at q
    obtain ⟨h1, h2⟩ := inV_of h c t q.2
    constructor
    · show (y :: ys).any _ = (e :: es).any _
      rw [List.any_cons, List.any_cons, eqV_of r h q.1 c]
      exact congrArg _ h1
    · rw [List.all_cons, flatV_of r q.1, h2]; rfl
def rInAll (K : PySem.W.Frag) (neg : Bool) : R2 := fun x y H Q =>
  ((rIn K neg x y H Q ∨ (if neg then rNotInD K else rInD K) x y H Q) ∨ (∃ i j, x = .str i ∧ y = .str j ∧ Q (.bl (if neg then !(!(Builtin.Str.occurrences j i 0 j.length 1).isEmpty) else !(Builtin.Str.occurrences j i 0 j.length 1).isEmpty)) H)) ∨
  ∃ a o, y = .ref a ∧ DGet H a x o ∧ Q (.bl (if neg then !o.isSome else o.isSome)) H
section
variable {X : Cx}
theorem op_inDict (hu : X.A.units + 64 < cLine) : OpR X (compareOp .In) (fun x y H Q => ∃ a o, y = .ref a ∧ DGet H a x o ∧ Q (.bl o.isSome) H) := by
  intro pins s σ H x y v u Q I rx ry h
  obtain ⟨a, o, rfl, g, q⟩ := h
  obtain rfl : u = Value.ref a := ry
  exact d_in (by omega) I g rx fun s' I' => ⟨.bl o.isSome, H, I', rfl, q⟩
theorem op_notInDict (hu : X.A.units + 64 < cLine) : OpR X (compareOp .NotIn) (fun x y H Q => ∃ a o, y = .ref a ∧ DGet H a x o ∧ Q (.bl (!o.isSome)) H) := by
  intro pins s σ H x y v u Q I rx ry h
  obtain ⟨a, o, rfl, g, q⟩ := h
  obtain rfl : u = Value.ref a := ry
  exact d_notIn (by omega) I g rx fun s' I' => ⟨.bl (!o.isSome), H, I', rfl, q⟩
theorem op_inAll (hu : X.A.units + 65 < cLine) : OpR X (compareOp .In) (rInAll X.K false) := OpR.or (OpR.or (OpR.or op_in_seq (op_inD hu)) op_in_str) (op_inDict (by omega))
theorem op_notInAll (hu : X.A.units + 65 < cLine) : OpR X (compareOp .NotIn) (rInAll X.K true) := OpR.or (OpR.or (OpR.or op_notIn_seq (op_notInD hu)) op_notIn_str) (op_notInDict (by omega))
end
section
variable {K : PySem.W.Frag}
theorem shaped_of {H F : Hp} {v : V} {d : D} (h : RepB K H F v d) (s : Same F H) (n : noDict d = true) (l : d.depth ≤ 64) : SeqAt.shaped d = true := by
  unfold SeqAt.shaped
  rw [(h.dp s n).2, decide_eq_true l]; rfl
theorem sem_inAny {neg : Bool} {o : D → D → Option D} (ho : ∀ x y d, o x y = some d → ∃ b, inB x y = some b ∧ d = .bool (if neg then !b else b)) : Sem2 K (rInAll K neg) o := fun H F x y vx vy d Q s rx ry hd q => by
  obtain ⟨b, hb, rfl⟩ := ho x y d hd
  have q' : Q (.bl (if neg = true then !b else b)) H := same_q s q (.bl _)
  have flat : ∀ {ds : List D} {a : Addr} {xs : List V}, vy = .ref a → SqL K H a xs ∨ SqT K H a xs → Reps K F xs ds → (flatD x && ds.all flatD) = true → b = inL x ds → rIn K neg vx vy H Q := fun {ds a xs} e hs r hc eb => by
    rw [Bool.and_eq_true] at hc
    have rx' := rx.rep (flatD_con hc.1)
    obtain ⟨h1, h2⟩ := inV_of rx' hc.1 r hc.2
    refine ⟨a, xs, e, hs, flatV_of rx' hc.1, h2, ?_⟩
    rw [h1, ← eb]; exact q'
  unfold inB at hb
  split at hb
  · split at hb
    · rename_i x' ds hc
      cases hb
      obtain ⟨a, xs, rfl, hs, r⟩ := ry.list s
      rw [Bool.or_eq_true] at hc
      rcases hc with hc | hc
      · exact .inl (.inl (.inl (flat rfl (.inl hs) r hc rfl)))
      · simp only [Bool.and_eq_true, decide_eq_true_eq] at hc
        obtain ⟨d1, _⟩ := rx.dp s hc.1.1.1
        have nl : noDict (PyData.list ds) = true := by simpa [noDict] using hc.1.1.2
        obtain ⟨d2, _⟩ := ry.dp s nl
        refine .inl (.inl (.inr ?_))
        cases neg with
        | true => exact ⟨x, ds, d1, d2, shaped_of rx s hc.1.1.1 hc.1.2, shaped_of ry s nl hc.2, q'⟩
        | false => exact ⟨x, ds, d1, d2, shaped_of rx s hc.1.1.1 hc.1.2, shaped_of ry s nl hc.2, q'⟩
    · cases hb
  · split at hb
    · rename_i x' ds hc
      cases hb
      obtain ⟨a, xs, rfl, _, hs, r⟩ := ry.tuple s
      exact .inl (.inl (.inl (flat rfl (.inr hs) r hc rfl)))
    · cases hb
  · cases hb
    refine .inl (.inr ⟨_, _, rx.str.1, ry.str.1, ?_⟩)
    cases neg <;> exact q'
  · split at hb
    · rename_i x' kvs _ hc
      cases hb
      simp only [Bool.and_eq_true] at hc
      obtain ⟨a, ks, rfl, e, r⟩ := ry.dict s hc.2
      have hf : isCon x = false := by
        cases x <;> first | rfl | simp [keyOk] at hc
      obtain ⟨k, rfl, rfl⟩ := rep_key (rx.rep hf) hc.1
      obtain ⟨_, _, h3⟩ := r.look (k := k)
      refine .inr ⟨a, valV ks k, rfl, .inl ⟨ks, k, e, rfl, rfl⟩, ?_⟩
      rw [h3]; exact q'
    · cases hb
  · cases hb
theorem sem_in : Sem2 K (rInAll K false) inD := sem_inAny fun x y d h => by
  obtain ⟨b, h1, h2⟩ := Option.map_eq_some_iff.mp h
  exact ⟨b, h1, h2.symm⟩
theorem sem_notIn : Sem2 K (rInAll K true) notInD := sem_inAny fun x y d h => by
  obtain ⟨b, h1, h2⟩ := Option.map_eq_some_iff.mp h
  exact ⟨b, h1, h2.symm⟩
end
section
variable {X : Cx} {a b : Expr} {f g : F1} {pos : Pos}
theorem x_in (hu : X.A.units + 64 + 1 < cLine) (ha : PB X a f) (hb : PB X b g) (hm : behindInMarks .In b = false := by rfl) : PX X (.Compare a [.In] [b] pos) (f2 inD f g) := x_cmp (op_inAll hu) sem_in hm ha hb
theorem x_notIn (hu : X.A.units + 64 + 1 < cLine) (ha : PB X a f) (hb : PB X b g) (hm : behindInMarks .NotIn b = false := by rfl) : PX X (.Compare a [.NotIn] [b] pos) (f2 notInD f g) := x_cmp (op_notInAll hu) sem_notIn hm ha hb
end
end Pu
set_option maxRecDepth 100000
/-! Tests, and, or, if, subscripts, slices, displays, calls. -/
namespace Pu
open PySem PySem.Spec PyProof.Rows L2

section
variable {X : Cx} {e a b c : Expr} {f g h : F1} {t u : FB} {rest : List Expr} {pos : Pos}
theorem tOf_some {ρ : Rho} {k : Bool} (q : tOf f ρ = some k) : f ρ = some (.bool k) := by
  unfold tOf at q
  split at q
  · rename_i e; cases q; exact e
  · cases q
/-- a value True or False, as a test -/
theorem t_val (p : PX X e f) (he : ∀ whole, isTrue e X.env whole = (do let v ← whole; standAt e.pos; holding [v] (truthy v)) := by intro _; rfl) : PTs' X e (tOf f) := ptImp (pt_val p he) fun σ H Q ⟨H0, F0, F, ρ, k, S, hd, q⟩ => by
  refine ⟨H0, F0, F, ρ, .bool k, S, tOf_some hd, fun H' F' v x r => ?_⟩
  cases r
  exact ⟨k, rfl, q H' F' x⟩
/-- a comparison, as a test -/
theorem t_cmp {op : CmpOp} {r : R2} {o : D → D → Option D} (ho : OpR X (compareOp op) r) (sem : Sem2 X.K r o) (hm : behindInMarks op b = false) (ha : PB X a f) (hb : PB X b g) : PTs' X (.Compare a [op] [b] pos) (tOf (f2 o f g)) :=
  ptImp (pt_cmpR ho ha hb hm) fun σ H Q ⟨H0, F0, F, ρ, k, S, hd, q⟩ => by
  have hd' := tOf_some hd
  have go := bin_go (K := X.K) (f := f) (g := g) sem σ H (fun v H' => ∃ k, v = .bl k ∧ Q k H') ⟨H0, F0, F, ρ, .bool k, S, hd', fun H' F' v x r => by cases r; exact ⟨k, rfl, q H' F' x⟩⟩
  exact go
theorem t_eq (hu : X.A.units + 64 < cLine) (ha : PB X a f) (hb : PB X b g) : PTs' X (.Compare a [.Eq] [b] pos) (tOf (f2 eqD f g)) := t_cmp (OpR.or (op_eqW hu) (op_eqZ hu)) sem_eq (nomark _) ha hb
theorem t_ne (hu : X.A.units + 64 < cLine) (ha : PB X a f) (hb : PB X b g) : PTs' X (.Compare a [.NotEq] [b] pos) (tOf (f2 neD f g)) := t_cmp (OpR.or (op_neW hu) (op_neZ hu)) sem_ne (nomark _) ha hb
theorem t_lt (ha : PB X a f) (hb : PB X b g) : PTs' X (.Compare a [.Lt] [b] pos) (tOf (f2 ltD f g)) := t_cmp op_ltIS sem_lt (nomark _) ha hb
theorem t_le (ha : PB X a f) (hb : PB X b g) : PTs' X (.Compare a [.LtE] [b] pos) (tOf (f2 leD f g)) := t_cmp op_le sem_le (nomark _) ha hb
theorem t_gt (ha : PB X a f) (hb : PB X b g) : PTs' X (.Compare a [.Gt] [b] pos) (tOf (f2 gtD f g)) := t_cmp op_gt sem_gt (nomark _) ha hb
theorem t_ge (ha : PB X a f) (hb : PB X b g) : PTs' X (.Compare a [.GtE] [b] pos) (tOf (f2 geD f g)) := t_cmp op_ge sem_ge (nomark _) ha hb
theorem t_is (ha : PB X a f) (hb : PB X b g) : PTs' X (.Compare a [.Is] [b] pos) (tOf (f2 isD f g)) := t_cmp op_isBl sem_is (nomark _) ha hb
theorem t_isnt (ha : PB X a f) (hb : PB X b g) : PTs' X (.Compare a [.IsNot] [b] pos) (tOf (f2 isntD f g)) := t_cmp op_notBl sem_isnt (nomark _) ha hb
theorem t_in (hu : X.A.units + 64 + 1 < cLine) (ha : PB X a f) (hb : PB X b g) (hm : behindInMarks .In b = false := by rfl) : PTs' X (.Compare a [.In] [b] pos) (tOf (f2 inD f g)) := t_cmp (op_inAll hu) sem_in hm ha hb
theorem t_notIn (hu : X.A.units + 64 + 1 < cLine) (ha : PB X a f) (hb : PB X b g) (hm : behindInMarks .NotIn b = false := by rfl) : PTs' X (.Compare a [.NotIn] [b] pos) (tOf (f2 notInD f g)) := t_cmp (op_notInAll hu) sem_notIn hm ha hb
theorem t_isN {j : Nat} {pos' : Pos} (ha : PB X a f) : PTs' X (.Compare a [.Is] [.Constant .none j pos'] pos) (tOf (f1 isNoneD f)) := ptImp (pt_cmp (pc_isN ha)) fun σ H Q ⟨H0, F0, F, ρ, k, S, hd, q⟩ => by
  obtain ⟨x, hx, hop⟩ := f1_some (tOf_some hd)
  refine ⟨H0, F0, F, ρ, x, S, hx, fun H1 F1 v e1 r1 => ?_⟩
  show ∃ c, V.bl (decide (v = .non)) = .bl c ∧ Q c H1
  rw [r1.isNon]
  cases x <;> cases hop <;> exact ⟨_, rfl, q H1 F1 e1⟩
theorem t_notN {j : Nat} {pos' : Pos} (ha : PB X a f) : PTs' X (.Compare a [.IsNot] [.Constant .none j pos'] pos) (tOf (f1 notNoneD f)) := ptImp (pt_cmp (pc_notN ha)) fun σ H Q ⟨H0, F0, F, ρ, k, S, hd, q⟩ => by
  obtain ⟨x, hx, hop⟩ := f1_some (tOf_some hd)
  refine ⟨H0, F0, F, ρ, x, S, hx, fun H1 F1 v e1 r1 => ?_⟩
  show ∃ c, V.bl (!decide (v = .non)) = .bl c ∧ Q c H1
  rw [r1.isNon]
  cases x <;> cases hop <;> exact ⟨_, rfl, q H1 F1 e1⟩
theorem t_not (p : PTs' X a t) : PTs' X (.UnaryOp .Not a pos) (tNot t) := ptImp (pt_not p) fun σ H Q ⟨H0, F0, F, ρ, k, S, hd, q⟩ => by
  obtain ⟨x, hx, rfl⟩ := Option.map_eq_some_iff.mp hd
  exact ⟨H0, F0, F, ρ, x, S, hx, fun H' F' e => q H' F' e⟩
theorem w_and1 (p : PTs' X a t) : PWs X (.BoolOp .And [a] pos) t := pw_and1 p
theorem w_or1 (p : PTs' X a t) : PWs X (.BoolOp .Or [a] pos) t := pw_or1 p
theorem w_and (p : PTs' X a t) (r : PWs X (.BoolOp .And (b :: rest) pos) u) : PWs X (.BoolOp .And (a :: b :: rest) pos) (tAnd t u) := pwImp (pw_and p r) fun σ H Q ⟨H0, F0, F, ρ, k, S, hd, q⟩ => by
  obtain ⟨x, hx, h2⟩ := Option.bind_eq_some_iff.mp hd
  refine ⟨H0, F0, F, ρ, x, S, hx, fun H1 F1 e1 => ?_⟩
  cases x with
  | true => exact iteT ⟨H0, F0, F1, ρ, k, S.ext e1, h2, fun H' F' e => q H' F' (e1.trans e)⟩
  | false =>
    cases h2
    exact iteF (q H1 F1 e1)
theorem w_or (p : PTs' X a t) (r : PWs X (.BoolOp .Or (b :: rest) pos) u) : PWs X (.BoolOp .Or (a :: b :: rest) pos) (tOr t u) := pwImp (pw_or p r) fun σ H Q ⟨H0, F0, F, ρ, k, S, hd, q⟩ => by
  obtain ⟨x, hx, h2⟩ := Option.bind_eq_some_iff.mp hd
  refine ⟨H0, F0, F, ρ, x, S, hx, fun H1 F1 e1 => ?_⟩
  cases x with
  | false => exact iteF ⟨H0, F0, F1, ρ, k, S.ext e1, h2, fun H' F' e => q H' F' (e1.trans e)⟩
  | true =>
    cases h2
    exact iteT (q H1 F1 e1)
theorem w_pt (p : PWs X a t) : PTs' X a t := p.pt
/-! as values -/
theorem x_one {op : BoolOp} (p : PX X a f) : PX X (.BoolOp op [a] pos) f := pe_one p
theorem x_and (p : PX X a f) (r : PX X (.BoolOp .And (b :: rest) pos) g) : PX X (.BoolOp .And (a :: b :: rest) pos) (fAnd f g) := peImp (pe_and p r) fun σ H Q ⟨H0, F0, F, ρ, d, S, hd, q⟩ => by
  unfold fAnd at hd
  split at hd
  · rename_i e
    refine ⟨H0, F0, F, ρ, _, S, e, fun H1 F1 v e1 r1 => ?_⟩
    cases r1
    exact ⟨true, rfl, iteT ⟨H0, F0, F1, ρ, d, S.ext e1, hd, fun H' F' v e r => q H' F' v (e1.trans e) r⟩⟩
  · rename_i e
    cases hd
    refine ⟨H0, F0, F, ρ, _, S, e, fun H1 F1 v e1 r1 => ?_⟩
    cases r1
    exact ⟨false, rfl, iteF (q H1 F1 _ e1 (.bl _))⟩
  · cases hd
theorem x_or (p : PX X a f) (r : PX X (.BoolOp .Or (b :: rest) pos) g) : PX X (.BoolOp .Or (a :: b :: rest) pos) (fOr f g) := peImp (pe_or p r) fun σ H Q ⟨H0, F0, F, ρ, d, S, hd, q⟩ => by
  unfold fOr at hd
  split at hd
  · rename_i e
    refine ⟨H0, F0, F, ρ, _, S, e, fun H1 F1 v e1 r1 => ?_⟩
    cases r1
    exact ⟨false, rfl, iteF ⟨H0, F0, F1, ρ, d, S.ext e1, hd, fun H' F' v e r => q H' F' v (e1.trans e) r⟩⟩
  · rename_i e
    cases hd
    refine ⟨H0, F0, F, ρ, _, S, e, fun H1 F1 v e1 r1 => ?_⟩
    cases r1
    exact ⟨true, rfl, iteT (q H1 F1 _ e1 (.bl _))⟩
  · cases hd
theorem x_not (p : PX X a f) : PX X (.UnaryOp .Not a pos) (f1 notD f) := peImp (pe_not p) fun σ H Q ⟨H0, F0, F, ρ, d, S, hd, q⟩ => by
  obtain ⟨x, hx, hop⟩ := f1_some hd
  unfold notD at hop
  split at hop
  · cases hop
    refine ⟨H0, F0, F, ρ, _, S, hx, fun H1 F1 v e1 r1 => ?_⟩
    cases r1
    exact ⟨_, rfl, q H1 F1 _ e1 (.bl _)⟩
  · cases hop
theorem x_if (p : PTs' X c t) (pa : PX X a f) (pb : PX X b g) : PX X (.IfExp c a b pos) (fIf t f g) := peImp (pe_ifExp p pa pb) fun σ H Q ⟨H0, F0, F, ρ, d, S, hd, q⟩ => by
  obtain ⟨x, hx, h2⟩ := Option.bind_eq_some_iff.mp hd
  refine ⟨H0, F0, F, ρ, x, S, hx, fun H1 F1 e1 => ?_⟩
  cases x with
  | true => exact iteT ⟨H0, F0, F1, ρ, d, S.ext e1, h2, fun H' F' v e r => q H' F' v (e1.trans e) r⟩
  | false => exact iteF ⟨H0, F0, F1, ρ, d, S.ext e1, h2, fun H' F' v e r => q H' F' v (e1.trans e) r⟩
/-- a <= b <= c -/
theorem chain_go {K : PySem.W.Frag} {o1 o2 : D → D → Option D} {r1 r2 : R2} (s1 : Sem2 K r1 o1) (s2 : Sem2 K r2 o2) : ∀ σ H Q, tX K (fChain o1 o2 f g h) σ H Q → tChain r1 r2 (tBw K f) (tBw K g) (tBw K h) σ H Q := fun σ H Q ⟨H0, F0, F, ρ, d, S, hd, q⟩ => by
  obtain ⟨x, hx, h2⟩ := Option.bind_eq_some_iff.mp hd
  obtain ⟨y, hy, h3⟩ := Option.bind_eq_some_iff.mp h2
  refine ⟨H0, F0, F, ρ, x, S, hx, fun H1 F1 v e1 q1 => ⟨H0, F0, F1, ρ, y, S.ext e1, hy, fun H2 F2 w e2 q2 => ?_⟩⟩
  split at h3
  · rename_i e
    refine s1 H2 F2 x y v w _ _ e2.sub (q1.mono e2.h e2.f) q2 e fun H3 F3 z e3 q3 => ?_
    cases q3
    refine ⟨true, rfl, ?_⟩
    obtain ⟨z, hz, h4⟩ := Option.bind_eq_some_iff.mp h3
    refine iteT ⟨H0, F0, F3, ρ, z, ((S.ext e1).ext e2).ext e3, hz, fun H4 F4 u e4 q4 => ?_⟩
    exact s2 H4 F4 y z w u d Q e4.sub (q2.mono (e3.h.trans e4.h) (e3.f.trans e4.f)) q4 h4 fun H5 F5 u5 e5 q5 => q H5 F5 u5 ((((e1.trans e2).trans e3).trans e4).trans e5) q5
  · rename_i e
    cases h3
    refine s1 H2 F2 x y v w _ _ e2.sub (q1.mono e2.h e2.f) q2 e fun H3 F3 z e3 q3 => ?_
    cases q3
    exact ⟨false, rfl, iteF (q H3 F3 _ ((e1.trans e2).trans e3) (.bl _))⟩
  · cases h3
end
end Pu
set_option maxRecDepth 100000
/-! Subscripts, slices, displays, calls. -/
namespace Pu
open PySem PySem.Spec PyProof.Rows L2

/-! ### chains -/
section
variable {X : Cx} {a b c : Expr} {f g h : F1} {pos : Pos}
theorem x_chain {op op' : CmpOp} {r r' : R2} {o1 o2 : D → D → Option D} (ho : OpR X (compareOp op) r) (ho' : OpR X (compareOp op') r') (s1 : Sem2 X.K r o1) (s2 : Sem2 X.K r' o2) (ha : PB X a f) (hb : PB X b g) (hc : PB X c h)
    (hm : lastMarks [op, op'] [b, c] = false := by with_unfolding_all rfl) : PX X (.Compare a [op, op'] [b, c] pos) (fChain o1 o2 f g h) := peImp (pe_chain ho ho' ha hb hc hm) (chain_go s1 s2)
theorem t_chain {op op' : CmpOp} {r r' : R2} {o1 o2 : D → D → Option D} (ho : OpR X (compareOp op) r) (ho' : OpR X (compareOp op') r') (s1 : Sem2 X.K r o1) (s2 : Sem2 X.K r' o2) (ha : PB X a f) (hb : PB X b g) (hc : PB X c h)
    (hm : lastMarks [op, op'] [b, c] = false := by with_unfolding_all rfl) : PTs' X (.Compare a [op, op'] [b, c] pos) (tOf (fChain o1 o2 f g h)) := ptImp (pt_chain ho ho' ha hb hc hm) fun σ H Q ⟨H0, F0, F, ρ, k, S, hd, q⟩ =>
  chain_go (K := X.K) (f := f) (g := g) (h := h) s1 s2 σ H (fun v H' => ∃ k, v = .bl k ∧ Q k H') ⟨H0, F0, F, ρ, .bool k, S, tOf_some hd, fun H' F' v x r => by cases r; exact ⟨k, rfl, q H' F' x⟩⟩
theorem x_lele (ha : PB X a f) (hb : PB X b g) (hc : PB X c h) (hm : lastMarks [.LtE, .LtE] [b, c] = false := by with_unfolding_all rfl) : PX X (.Compare a [.LtE, .LtE] [b, c] pos) (fChain leD leD f g h) := x_chain op_le op_le sem_le sem_le ha hb hc hm
theorem t_lele (ha : PB X a f) (hb : PB X b g) (hc : PB X c h) (hm : lastMarks [.LtE, .LtE] [b, c] = false := by with_unfolding_all rfl) : PTs' X (.Compare a [.LtE, .LtE] [b, c] pos) (tOf (fChain leD leD f g h)) := t_chain op_le op_le sem_le sem_le ha hb hc hm
end

/-! ### a[i] -/
def rIxD : R2 := fun x y H Q => ∃ a v, x = .ref a ∧ DGet H a y (some v) ∧ Q v H
section
variable {X : Cx}
theorem ix_dict (hu : X.A.units + 64 < cLine) : IxR X rIxD := by
  intro value slice pins s σ H x y v u Q I rx ry h hs
  obtain ⟨a, w, rfl, g, q⟩ := h
  obtain rfl : v = Value.ref a := rx
  have hT := dict_typeIs I g
  unfold subscriptTail
  refine wpAny_bind ?_
  rw [getitemInPython_of_ne hT.not_modules]
  refine wpAny_bind (wpAny_specialOf hT PySem.F.slot_dict_getitem.lookup ?_)
  have fin : wpAny (model X.prog X.w) X.A (subscripted slice false (.ref a) u) (fun r s₃ => wpAny (model X.prog X.w) X.A (letTemporaryGo value (.ref a) r >>= fun _ => pure r) (EP X pins σ Q) X.xe s₃) X.xe s := by
    rw [hs]
    exact wpAny_operating (wpAny_mono (d_getItem (Q := EP X pins σ Q) (by omega) I g ry fun w' s3 I3 rw' => ⟨w, H, I3, rw', q⟩) (fun r s₃ h₃ => wpAny_bind (wpAny_letTemporaryGo (wpAny_pure h₃))) fun _ _ x => x)
  first
    | exact wpAny_pure (wpAny_bind fin)
    | exact wpAny_bind (wpAny_pure (wpAny_bind fin))
    | exact wpAny_bind fin
def rIxAll (K : PySem.W.Frag) : R2 := fun x y H Q => (rIxL K x y H Q ∨ rIxT K x y H Q) ∨ rIxD x y H Q
theorem ix_all (hu : X.A.units + 64 < cLine) : IxR X (rIxAll X.K) := IxR.or (IxR.or ix_list ix_tup) (ix_dict hu)
end
theorem atI_some {α : Type} {xs : List α} {i : Int} {v : α} (h : atI xs i = some v) : ∃ j, ixN xs.length i = some j ∧ xs[j]? = some v := Option.bind_eq_some_iff.mp h
theorem Reps.atI {K : PySem.W.Frag} {F : Hp} {xs : List V} {ds : List D} {i : Int} {d : D} (r : Reps K F xs ds) (h : atI ds i = some d) : ∃ x, L2.atI xs i = some x ∧ Rep K F x d := by
  obtain ⟨j, h1, h2⟩ := atI_some h
  obtain ⟨x, h3, r3⟩ := r.get h2
  refine ⟨x, ?_, r3⟩
  unfold L2.atI
  rw [r.length, h1]
  exact h3
section
variable {K : PySem.W.Frag}
theorem sem_ix : Sem2 K (rIxAll K) ixD := fun H F x y vx vy d Q s rx ry hd q => by
  unfold ixD at hd
  split at hd
  · obtain ⟨a, xs, rfl, hs, r⟩ := rx.list s
    obtain ⟨v, h1, r1⟩ := r.atI hd
    exact .inl (.inl ⟨a, xs, _, v, rfl, ry.int, hs, h1, same_q s q r1⟩)
  · obtain ⟨a, xs, rfl, _, hs, r⟩ := rx.tuple s
    obtain ⟨v, h1, r1⟩ := r.atI hd
    exact .inl (.inr ⟨a, xs, _, v, rfl, ry.int, hs, h1, same_q s q r1⟩)
  · split at hd
    · rename_i hc
      simp only [Bool.and_eq_true] at hc
      obtain ⟨a, ks, rfl, e, r⟩ := rx.dict s hc.2
      have hf : isCon y = false := by
        cases y <;> first | rfl | simp [keyOk] at hc
      obtain ⟨k, rfl, rfl⟩ := rep_key (ry.rep hf) hc.1
      obtain ⟨h1, h2, h3⟩ := r.look (k := k)
      cases l : valV ks k with
      | none => rw [(h2 l).1] at hd; cases hd
      | some v =>
        obtain ⟨d', e', r'⟩ := h1 v l
        rw [hd] at e'
        cases e'
        exact .inr ⟨a, v, rfl, .inl ⟨ks, k, e, rfl, l.symm⟩, same_q s q r'⟩
    · cases hd
  · cases hd
end
section
variable {X : Cx} {a b : Expr} {f g : F1} {pos p2 : Pos} {lo hi : Option Expr} {l u : Option F1}
theorem x_ix (hu : X.A.units + 64 < cLine) (ha : PB X a f) (hb : PB X b g) (hs : PlainIx b := by intro _ _; rfl) : PX X (.Subscript a b pos) (f2 ixD f g) := peImp (pe_ix (ix_all hu) ha hb hs) (bin_go sem_ix)

/-! ### slices -/
def tPt (K : PySem.W.Frag) (f : Option F1) : TO := fun σ H Q => ∃ (H0 F0 F : Hp) (ρ : Rho) (i : Option Int), St K H0 F0 H F σ ρ ∧ partO f ρ = some i ∧ ∀ H' F', Ext H F H' F' → Q i H'
theorem p_none : PO X none (tPt X.K none) := ⟨fun pins s σ H Q I ⟨H0, F0, F, ρ, i, S, hd, q⟩ => po_none.run pins s σ H Q I (by cases hd; exact q H F (Ext.refl S.sub))⟩
theorem p_some (h : PB X a f) : PO X (some a) (tPt X.K (some f)) := ⟨fun pins s σ H Q I ⟨H0, F0, F, ρ, i, S, hd, q⟩ => (po_some h).run pins s σ H Q I (by
  simp only [partO] at hd
  cases e : f ρ with
  | none => rw [e] at hd; cases hd
  | some d =>
    rw [e] at hd
    cases d <;> first | (cases hd; done) | skip
    cases hd
    refine ⟨H0, F0, F, ρ, _, S, e, fun H1 F1 v e1 r1 => ?_⟩
    cases r1.int
    exact ⟨_, rfl, q H1 F1 e1⟩)⟩
theorem x_cut (ha : PB X a f) (hl : PO X lo (tPt X.K l)) (hh : PO X hi (tPt X.K u)) : PX X (.Subscript a (.Slice lo hi none p2) pos) (fCut f l u) := peImp (pe_slice (SlR.or sl_list sl_tupA) ha hl hh) fun σ H Q ⟨H0, F0, F, ρ, d, S, hd, q⟩ => by
  obtain ⟨x, hx, h2⟩ := Option.bind_eq_some_iff.mp hd
  obtain ⟨i, hi', h3⟩ := Option.bind_eq_some_iff.mp h2
  obtain ⟨j, hj, h4⟩ := Option.bind_eq_some_iff.mp h3
  refine ⟨H0, F0, F, ρ, x, S, hx, fun H1 F1 v e1 r1 => ⟨H0, F0, F1, ρ, i, S.ext e1, hi', fun H2 F2 e2 => ⟨H0, F0, F2, ρ, j, (S.ext e1).ext e2, hj, fun H3 F3 e3 => ?_⟩⟩⟩
  have s3 : Same F3 H3 := e3.sub
  have r3 := r1.mono (e2.h.trans e3.h) (e2.f.trans e3.f)
  have q' : ∀ H' F' v, Ext H3 F3 H' F' → Rep X.K F' v d → Q v H' := fun H' F' v e r => q H' F' v (((e1.trans e2).trans e3).trans e) r
  unfold cutD at h4
  split at h4
  · cases h4
    obtain ⟨a, xs, rfl, hs, r⟩ := r3.list s3
    exact .inl ⟨a, xs, rfl, hs, new_lst s3 q' (r.cut i j)⟩
  · cases h4
    obtain ⟨a, xs, rfl, hf, hs, r⟩ := r3.tuple s3
    refine .inr ⟨a, xs, rfl, hs, fun hw => ?_, fun _ => new_tup s3 q' (r.cut i j)⟩
    have hw' : cutV xs i j = xs := by
      unfold cutV
      rw [hw.1, hw.2]; simp
    have rc := r.cut i j
    rw [hw'] at rc
    exact same_q s3 q' (.tup hf rc)
  · cases h4
end

/-! ### x[::-1] -/
theorem fm_map {α β : Type} (f : α → Option β) (g : α → β) : ∀ l : List α, (∀ m ∈ l, f m = some (g m)) → l.filterMap f = l.map g
  | [], _ => rfl
  | x :: l, h => by
    rw [List.filterMap_cons, h x List.mem_cons_self, List.map_cons, fm_map f g l fun m hm => h m (List.mem_cons_of_mem _ hm)]
theorem revPick (xs : Array Value) : ((List.range xs.size).filterMap fun (m : Nat) => xs[(((xs.size : Int) - 1) + (m : Int) * (-1)).toNat]?).toArray = xs.toList.reverse.toArray := by
  congr 1
  rw [fm_map _ (fun m => xs.toList.reverse.getD m .none) _ fun m hm => ?_]
  · apply List.ext_getElem?
    intro i
    by_cases hi : i < xs.size
    · have hl : i < xs.toList.reverse.length := by simpa using hi
      rw [List.getElem?_map, List.getElem?_range hi, List.getElem?_eq_getElem hl]
      show some (xs.toList.reverse.getD i .none) = _
      rw [List.getD_eq_getElem?_getD, List.getElem?_eq_getElem hl]; rfl
    · rw [List.getElem?_eq_none (by simpa using hi), List.getElem?_eq_none (by simpa using hi)]
  · have hm' : m < xs.size := List.mem_range.mp hm
    have e1 : (((xs.size : Int) - 1) + (m : Int) * (-1)).toNat = xs.size - 1 - m := by omega
    have hl : m < xs.toList.reverse.length := by simpa using hm'
    rw [e1, List.getD_eq_getElem?_getD, List.getElem?_eq_getElem hl]
    simp
theorem applied_rev {prog : Program} {w : World} {A : Around} {E : Value → Shared → Prop} {s : Shared} {sl : Addr} {vl vu vs : Value} {n : Nat} {Q : Int × Int × Nat → Shared → Prop}
    (hs : s.heap.IsSliceOf sl vl vu vs) (pl : IsPart vl none) (pu : IsPart vu none) (ps : IsPart vs (some (-1))) (h : Q ((n : Int) - 1, -1, n) s) :
    wpAny (model prog w) A (Builtin.Slice.sliceApplied (.ref sl) (pure (n : Int))) Q E s := by
  obtain ⟨os, g1, g2, g3⟩ := id hs
  unfold Builtin.Slice.sliceApplied
  unfold Builtin.Slice.sliceFields
  have third : wpAny (model prog w) A (field (.ref sl) 2) (fun v s' => v = vs ∧ s' = s) E s := wpAny_field g1 g3 (x := vs) rfl ⟨rfl, rfl⟩
  refine wpAny_bind (wpAny_bind (wpAny_field g1 g3 (x := vl) rfl ?_))
  refine wpAny_bind (wpAny_field g1 g3 (x := vu) rfl ?_)
  refine wpAny_bind (wpAny_mono third (fun v s' hv => ?_) fun _ _ x => x)
  obtain ⟨e1, e2⟩ := hv
  subst e1 e2
  refine wpAny_pure (wpAny_bind (HT.slicePart_ ps ?_))
  show wpAny _ _ (if ((-1 : Int) == 0) = true then _ else _) _ _ _
  rw [if_neg (by decide)]
  refine wpAny_bind (HT.slicePart_ pl ?_)
  refine wpAny_bind (HT.slicePart_ pu ?_)
  refine wpAny_bind (wpAny_pure ?_)
  have e : Builtin.Slice.sliceAdjust none none (-1) (n : Int) = ((n : Int) - 1, -1) := rfl
  rw [show (Option.getD (some (-1 : Int)) 1) = -1 from rfl, e]
  have e2 : Builtin.Slice.slicePlaces ((n : Int) - 1) (-1) (-1) = n := by
    unfold Builtin.Slice.slicePlaces
    rw [if_neg (by decide), show (-(-1) : Int) = 1 from rfl, Int.ediv_one]
    split <;> omega
  show wpAny _ _ (pure ((n : Int) - 1, (-1 : Int), Builtin.Slice.slicePlaces ((n : Int) - 1) (-1) (-1))) _ _ _
  rw [e2]
  exact wpAny_pure h
theorem getItem_tuple_rev {prog : Program} {w : World} {A : Around} {E : Value → Shared → Prop} {s : Shared} {t sl : Addr} {items : Array Value} {vl vu vs : Value} {Q : Value → Shared → Prop} (ht : IsTup s.heap t items)
    (hs : s.heap.IsSliceOf sl vl vu vs) (pl : IsPart vl none) (pu : IsPart vu none) (ps : IsPart vs (some (-1)))
    (h : Q (.ref s.heap.objs.size) { s with heap := s.heap.push { cls := .type "tuple", data := .seq items.toList.reverse.toArray } }) (hsz : items.size ≤ sizeLine) : wpAny (model prog w) A (getItem (.ref t) (.ref sl)) Q E s := by
  have hsz' : sizeOk (.seq items.toList.reverse.toArray) := by
    show items.toList.reverse.toArray.size ≤ sizeLine
    simpa using hsz
  have hT : s.TypeIs (.ref sl) "slice" := by
    obtain ⟨o, h1, h2, _⟩ := hs
    exact ⟨o, h1, h2⟩
  have code : wpAny (model prog w) A.in1 (Builtin.«tuple.__getitem__» ⟨[.ref t, .ref sl], []⟩) (fun r s' => ∃ v, r = .done (.ret v) ∧ Q v s') E s := by
    show wpAny _ _ (Builtin.Tuple.tupleItemsOf (.ref t) >>= _) _ _ s
    refine wpAny_bind (PyProof.Rows.tupleItemsOf_ ht (wpAny_bind (wpAny_typeOf hT ?_)))
    rw [if_pos (by decide)]
    refine wpAny_bind (applied_rev hs pl pu ps ?_)
    show wpAny _ _ (if ((((items.size : Int) - 1) == 0 && (-1 : Int) == 1 && items.size == items.size) = true) then _ else _) _ _ s
    rw [if_neg (by rw [show ((-1 : Int) == 1) = false from rfl, Bool.and_false, Bool.false_and]; decide), revPick]
    first
      | exact wpAny_bind (m := Builtin.Tuple.tupleExact _) (wpAny_newObj_type (wpAny_pure ⟨_, rfl, h⟩) hsz')
      | exact wpAny_bind (m := Builtin.Tuple.tupleExact _) (wpAny_newObj_type (wpAny_bind (wpAny_pure (wpAny_pure ⟨_, rfl, h⟩))) hsz')
      | exact wpAny_bind (wpAny_bind (m := Builtin.Tuple.tupleExact _) (wpAny_newObj_type (wpAny_pure (wpAny_pure ⟨_, rfl, h⟩)) hsz'))
      | exact wpAny_bind (wpAny_bind (m := Builtin.Tuple.tupleExact _) (wpAny_newObj_type (wpAny_pure ⟨_, rfl, h⟩) hsz'))
  have called := wpAny_call_entry PyProof.Rows.slot_tuple_getitem ht.typeIs PyProof.Rows.entry_tuple_getitem code (PyProof.Rows.args_tuple_getitem _ _)
  unfold getItem
  try with_reducible refine wpAny_holding ?_
  first | refine wpAny_bind (wpAny_pure ?_) | skip
  refine wpAny_bind (PySem.wpAny_sequenceKey ht.typeIs (by decide) ?_)
  exact wpAny_bind (wpAny_callSpecial?_slot (name := Str.ofString "__getitem__") ht.typeIs PyProof.Rows.slot_tuple_getitem (wpAny_mono called (fun v s' q => wpAny_pure q) fun _ _ x => x))
end Pu
set_option maxRecDepth 100000
/-! x[::-1], displays, argument lists, calls of built-ins and of the text's own defs. -/
namespace Pu
open PySem PySem.Spec PyProof.Rows L2

section
variable {X : Cx} {e a b c : Expr} {f g h : F1} {pos : Pos} {es : List Expr}
theorem x_rev {k : Nat} {p1 p2 p3 : Pos} (ha : PB X a f) : PX X (.Subscript a (.Slice none none (some (.UnaryOp .USub (.Constant (.int 1) k p1) p2)) p3) pos) (f1 revD f) := by
  refine ⟨fun pins s σ H Q I hw => ?_⟩
  obtain ⟨H0, F0, F, ρ, d, S, hd, q⟩ := hw
  obtain ⟨x, hx, hop⟩ := f1_some hd
  refine Subscript_ (thn (ha.run pins s σ H (fun v H' => ∃ F', Ext H F H' F' ∧ RepB X.K H' F' v x) I ⟨H0, F0, F, ρ, x, S, hx, fun H' F' v e r => ⟨F', e, r⟩⟩) fun v s1 hv => ?_)
  obtain ⟨y, H1, I1, ry, F1, e1, r1⟩ := hv
  have minus : PO X (some (.UnaryOp .USub (.Constant (.int 1) k p1) p2)) (tPart (tUn (rU fun i => .int (-i)) (tC (.int 1)))) := po_some (pe_un un_neg pe_int)
  refine wpAny_Slice (thn (po_none.run pins s1 σ H1 (fun o H' => o = none ∧ H' = H1) I1 ⟨rfl, rfl⟩) fun vl s2 h2 => ?_)
  obtain ⟨o2, H2, I2, pl, rfl, rfl⟩ := h2
  refine thn (po_none.run pins s2 σ H2 (fun o H' => o = none ∧ H' = H2) I2 ⟨rfl, rfl⟩) fun vu s3 h3 => ?_
  obtain ⟨o3, H3, I3, pu, rfl, rfl⟩ := h3
  refine thn (minus.run pins s3 σ H3 (fun o H' => o = some (-1) ∧ H' = H3) I3 ⟨1, rfl, -1, rfl, rfl, rfl⟩) fun vs s4 h4 => ?_
  obtain ⟨o4, H4, I4, ps, rfl, rfl⟩ := h4
  have J : Inv X pins σ H4 { s4 with heap := s4.heap.push { cls := .type "slice", data := .fields #[vl, vu, vs] } } := I4.kept (t' := s4.toks) fun b ob q => Heap.get?_push_of_some _ q
  have sl := Heap.IsSliceOf.new s4.heap vl vu vs
  have q' : ∀ H' F' v, Ext H4 F1 H' F' → Rep X.K F' v d → Q v H' := fun H' F' v e r => q H' F' v (e1.trans e) r
  unfold revD at hop
  split at hop
  · cases hop
    obtain ⟨l, xs, rfl, hs, r⟩ := r1.list e1.sub
    obtain rfl : v = Value.ref l := ry
    obtain ⟨its, rv, ht, hz⟩ := J.list hs
    have hlen := rv.length
    show wpAny (model X.prog X.w) X.A (subscriptTail _ _ (.ref l) (.ref s4.heap.objs.size)) _ X.xe { s4 with heap := s4.heap.push { cls := .type "slice", data := .fields #[vl, vu, vs] } }
    refine tail_any (ops := [.ref l, .ref s4.heap.objs.size]) ht.isList.typeIs PySem.slot_list_getitem.lookup ?_ (by with_unfolding_all rfl)
    refine wpAny_getItem_list_slice ht.isList sl pl pu ps (by decide) ?_ (by rw [List.size_toArray]; omega)
    rw [PySem.W.krv_pick]
    have new := J.laid (t' := s4.toks) (o := .lst xs.reverse) (fun b ob q => Heap.get?_push_of_some { cls := .type "list", data := .seq its.toArray.toList.reverse.toArray } q) (Nat.le_refl _) ⟨by rw [List.length_reverse]; exact hz, _, 0, rv.reverse, Heap.get?_push_size _ rfl⟩
    exact ⟨.ref _, _, new, rfl, new_lst e1.sub q' r.reverse _ (J.hok.fresh (Nat.le_refl _))⟩
  · cases hop
    obtain ⟨l, xs, rfl, _, hs, r⟩ := r1.tuple e1.sub
    obtain rfl : v = Value.ref l := ry
    obtain ⟨its, rv, ht, hz⟩ := J.tuple hs
    have hlen := rv.length
    show wpAny (model X.prog X.w) X.A (subscriptTail _ _ (.ref l) (.ref s4.heap.objs.size)) _ X.xe { s4 with heap := s4.heap.push { cls := .type "slice", data := .fields #[vl, vu, vs] } }
    refine tail_any (ops := [.ref l, .ref s4.heap.objs.size]) ht.typeIs PyProof.Rows.slot_tuple_getitem.lookup ?_ (by with_unfolding_all rfl)
    refine getItem_tuple_rev ht sl pl pu ps ?_ (by rw [List.size_toArray]; omega)
    have new := J.laid (t' := s4.toks) (o := .tup xs.reverse) (fun b ob q => Heap.get?_push_of_some { cls := .type "tuple", data := .seq its.toArray.toList.reverse.toArray } q) (Nat.le_refl _) ⟨by rw [List.length_reverse]; exact hz, _, rv.reverse, IsTup.new _ _⟩
    exact ⟨.ref _, _, new, rfl, new_tup e1.sub q' r.reverse _ (J.hok.fresh (Nat.le_refl _))⟩
  · cases hop

/-! ### argument lists, displays -/
variable {fs : List F1} {ms : List Bool}
theorem ar_nil : PAr X [] [] (fArgs []) := paImp pa_nil fun σ H Q ⟨H0, F0, F, ρ, ds, S, hd, q⟩ => by
  cases hd
  exact q H F [] (Ext.refl S.sub) .nil
theorem ar_val (he : PX X e f) (hr : PAr X es ms (fArgs fs)) (hs : starEach (e :: es) X.env = (false, eval e X.env) :: starEach es X.env := by rfl) : PAr X (e :: es) (false :: ms) (fArgs (f :: fs)) := paImp (pa_cons he hr hs) fun σ H Q ⟨H0, F0, F, ρ, ds, S, hd, q⟩ => by
  obtain ⟨x, hx, h2⟩ := Option.bind_eq_some_iff.mp hd
  obtain ⟨xs, hxs, h3⟩ := Option.bind_eq_some_iff.mp h2
  cases h3
  exact ⟨H0, F0, F, ρ, x, S, hx, fun H1 F1 v e1 r1 => ⟨H0, F0, F1, ρ, xs, S.ext e1, hxs, fun H2 F2 vs e2 r2 => q H2 F2 _ (e1.trans e2) (.val (r1.mono e2.f) r2)⟩⟩
theorem ar_bor (he : PB X e f) (hr : PAr X es ms (fArgs fs)) (hs : starEach (e :: es) X.env = (false, eval e X.env) :: starEach es X.env := by rfl) : PAr X (e :: es) (true :: ms) (fArgs (f :: fs)) := paImp (pa_cons he hr hs) fun σ H Q ⟨H0, F0, F, ρ, ds, S, hd, q⟩ => by
  obtain ⟨x, hx, h2⟩ := Option.bind_eq_some_iff.mp hd
  obtain ⟨xs, hxs, h3⟩ := Option.bind_eq_some_iff.mp h2
  cases h3
  exact ⟨H0, F0, F, ρ, x, S, hx, fun H1 F1 v e1 r1 => ⟨H0, F0, F1, ρ, xs, S.ext e1, hxs, fun H2 F2 vs e2 r2 => q H2 F2 _ (e1.trans e2) (.bor (r1.mono e2.h e2.f) r2)⟩⟩
def allV (ms : List Bool) : Bool := ms.all not
theorem RepsM.all {K : PySem.W.Frag} {H F : Hp} {ms : List Bool} {vs : List V} {ds : List D} (r : RepsM K H F ms vs ds) (h : allV ms = true) : Reps K F vs ds := r.reps fun b hb => by
  have := List.all_eq_true.mp h b hb
  simpa using this
theorem x_tup {k : Nat} (ha : PAr X es ms (fArgs fs)) (hm : allV ms = true := by rfl) (hl : decide (ms.length ≤ 1000) = true := by rfl) : PX X (.Tuple es k pos) (fTup fs) := peImp (pe_tup ha) fun σ H Q ⟨H0, F0, F, ρ, d, S, hd, q⟩ => by
  obtain ⟨ds, hds, rfl⟩ := Option.map_eq_some_iff.mp hd
  refine ⟨H0, F0, F, ρ, ds, S, hds, fun H1 F1 vs e1 r1 => ⟨?_, new_tup e1.sub (fun H' F' v e r => q H' F' v (e1.trans e) r) (r1.all hm)⟩⟩
  rw [r1.length, sizeLine_eq]
  have := of_decide_eq_true hl
  omega
theorem x_lst (ha : PAr X es ms (fArgs fs)) (hm : allV ms = true := by rfl) (hl : decide (ms.length ≤ 1000) = true := by rfl) : PX X (.List es pos) (fLst fs) := peImp (pe_lst ha) fun σ H Q ⟨H0, F0, F, ρ, d, S, hd, q⟩ => by
  obtain ⟨ds, hds, rfl⟩ := Option.map_eq_some_iff.mp hd
  refine ⟨H0, F0, F, ρ, ds, S, hds, fun H1 F1 vs e1 r1 => ⟨?_, new_lst e1.sub (fun H' F' v e r => q H' F' v (e1.trans e) r) (r1.all hm)⟩⟩
  rw [r1.length, sizeLine_eq]
  have := of_decide_eq_true hl
  omega

/-! ### built-ins -/
def SemC (K : PySem.W.Frag) (r : List V → Hp → VK → Prop) (ms : List Bool) (m : Fn) : Prop := ∀ (H F : Hp) (ds : List D) (vs : List V) (d : D) (Q : VK), Same F H → RepsM K H F ms vs ds → m ds = some d →
  (∀ H' F' v, Ext H F H' F' → Rep K F' v d → Q v H') → r vs H Q
theorem call_go {K : PySem.W.Frag} {r : List V → Hp → VK → Prop} {m : Fn} (sem : SemC K r ms m) : ∀ σ H Q, tX K (fCall m fs) σ H Q → tCB r (tAr K ms (fArgs fs)) σ H Q := fun σ H Q ⟨H0, F0, F, ρ, d, S, hd, q⟩ => by
  obtain ⟨ds, hds, hm⟩ := Option.bind_eq_some_iff.mp hd
  exact ⟨H0, F0, F, ρ, ds, S, hds, fun H1 F1 vs e1 r1 => sem H1 F1 ds vs d Q e1.sub r1 hm fun H' F' v e r => q H' F' v (e1.trans e) r⟩
theorem x_bi {id : String} {x : Str} {p : Pos} {r : List V → Hp → VK → Prop} {m : Fn} (hc : CallR X (.builtin id) r) (sem : SemC X.K r ms m) (hg : Gl X x) (hm : X.mg x = none) (hv : bootBuiltins x = some (.builtin id)) (ha : PAr X (e :: es) ms (fArgs fs))
    (hn : x ≠ "__name__" := by decide) (hdb : (x == ("__debug__" : Str)) = false := by decide) (h1 : starEach (e :: es) X.env = (false, eval e X.env) :: starEach es X.env := by rfl) (hpl : (backTo pos (starEach es X.env)).any (·.1) = false := by rfl) :
    PX X (.Call (.Name x p) (e :: es) [] pos) (fCall m fs) := peImp (pe_callB hc hg hm hv ha hn hdb h1 hpl) (call_go sem)
theorem x_ty {T : String} {x : Str} {p : Pos} {r : List V → Hp → VK → Prop} {m : Fn} (hc : CallR X (.type T) r) (sem : SemC X.K r ms m) (hg : Gl X x) (hm : X.mg x = none) (hv : bootBuiltins x = some (.type T)) (ha : PAr X (e :: es) ms (fArgs fs))
    (hn : x ≠ "__name__" := by decide) (hdb : (x == ("__debug__" : Str)) = false := by decide) (h1 : starEach (e :: es) X.env = (false, eval e X.env) :: starEach es X.env := by rfl) (hpl : (backTo pos (starEach es X.env)).any (·.1) = false := by rfl) :
    PX X (.Call (.Name x p) (e :: es) [] pos) (fCall m fs) := peImp (pe_callTy hc hg hm hv ha hn hdb h1 hpl) (call_go sem)
end
end Pu
set_option maxRecDepth 100000
/-! What the built-ins answer. -/
namespace Pu
open PySem PySem.Spec PyProof.Rows L2

section
variable {K : PySem.W.Frag} {H F : Hp}
theorem repsM1 {vs : List V} {d : D} (h : RepsM K H F [true] vs [d]) : ∃ v, vs = [v] ∧ RepB K H F v d := by
  cases h with
  | bor h r => cases r; exact ⟨_, rfl, h⟩
theorem repsM2 {vs : List V} {d e : D} (h : RepsM K H F [true, true] vs [d, e]) : ∃ v w, vs = [v, w] ∧ RepB K H F v d ∧ RepB K H F w e := by
  cases h with
  | bor h r =>
    obtain ⟨w, rfl, h2⟩ := repsM1 r
    exact ⟨_, w, rfl, h, h2⟩
theorem m1_some {op : D → Option D} {ds : List D} {d : D} (h : m1 op ds = some d) : ∃ x, ds = [x] ∧ op x = some d := by
  unfold m1 at h
  split at h
  · exact ⟨_, rfl, h⟩
  · cases h
theorem m2_some {op : D → D → Option D} {ds : List D} {d : D} (h : m2 op ds = some d) : ∃ x y, ds = [x, y] ∧ op x y = some d := by
  unfold m2 at h
  split at h
  · exact ⟨_, _, rfl, h⟩
  · cases h
/-- one argument, lent -/
theorem sem1 {r : List V → Hp → VK → Prop} {op : D → Option D} (h : ∀ (H F : Hp) (x : D) (v : V) (d : D) (Q : VK), Same F H → RepB K H F v x → op x = some d → (∀ H' F' v, Ext H F H' F' → Rep K F' v d → Q v H') → r [v] H Q) : SemC K r [true] (m1 op) := fun H F ds vs d Q s rs hm q => by
  obtain ⟨x, rfl, ho⟩ := m1_some hm
  obtain ⟨v, rfl, r⟩ := repsM1 rs
  exact h H F x v d Q s r ho q
theorem sem2 {r : List V → Hp → VK → Prop} {op : D → D → Option D} (h : ∀ (H F : Hp) (x y : D) (v w : V) (d : D) (Q : VK), Same F H → RepB K H F v x → RepB K H F w y → op x y = some d → (∀ H' F' v, Ext H F H' F' → Rep K F' v d → Q v H') → r [v, w] H Q) : SemC K r [true, true] (m2 op) := fun H F ds vs d Q s rs hm q => by
  obtain ⟨x, y, rfl, ho⟩ := m2_some hm
  obtain ⟨v, w, rfl, r1, r2⟩ := repsM2 rs
  exact h H F x y v w d Q s r1 r2 ho q

def rLenA (K : PySem.W.Frag) : List V → Hp → VK → Prop := fun xs H Q => (∃ p ys, xs = [.ref p] ∧ (SqL K H p ys ∨ SqT K H p ys) ∧ Q (.int ys.length) H) ∨ (∃ z, xs = [.str z] ∧ z.length ≤ sizeLine ∧ Q (.int z.length) H)
theorem callOr {X : Cx} {f : Value} {r r' : List V → Hp → VK → Prop} (h : CallR X f r) (h' : CallR X f r') : CallR X f (fun xs H Q => r xs H Q ∨ r' xs H Q) := by
  intro pins s σ H xs us Q I rx q
  rcases q with q | q
  · exact h pins s σ H xs us Q I rx q
  · exact h' pins s σ H xs us Q I rx q
theorem cr_len {X : Cx} : CallR X (.builtin "len") (rLenA X.K) := callOr call_len_seq call_len_str
theorem sem_len : SemC K (rLenA K) [true] (m1 lenD) := sem1 fun H F x v d Q s r ho q => by
  unfold lenD at ho
  split at ho
  · cases ho
    obtain ⟨a, xs, rfl, hs, rr⟩ := r.list s
    refine .inl ⟨a, xs, rfl, .inl hs, ?_⟩
    rw [rr.length]; exact same_q s q (.int _)
  · cases ho
    obtain ⟨a, xs, rfl, _, hs, rr⟩ := r.tuple s
    refine .inl ⟨a, xs, rfl, .inr hs, ?_⟩
    rw [rr.length]; exact same_q s q (.int _)
  · split at ho
    · rename_i hc
      cases ho
      refine .inr ⟨_, by rw [r.str.1], of_decide_eq_true hc, same_q s q (.int _)⟩
    · cases ho
  · cases ho
def rTupA (K : PySem.W.Frag) : List V → Hp → VK → Prop := fun xs H Q => ∃ p ys, xs = [.ref p] ∧ ((SqL K H p ys ∧ ∀ l, H l = none → Q (.ref l) (upd H l (.tup ys))) ∨ (SqT K H p ys ∧ Q (.ref p) H))
theorem sem_tuple : SemC K (rTupA K) [true] (m1 tupD) := sem1 fun H F x v d Q s r ho q => by
  unfold tupD at ho
  split at ho
  · cases ho
    obtain ⟨a, xs, rfl, hs, rr⟩ := r.list s
    exact ⟨a, xs, rfl, .inl ⟨hs, new_tup s q rr⟩⟩
  · cases ho
    obtain ⟨a, xs, rfl, hf, hs, rr⟩ := r.tuple s
    exact ⟨a, xs, rfl, .inr ⟨hs, same_q s q (.tup hf rr)⟩⟩
  · cases ho
def rLstA (K : PySem.W.Frag) : List V → Hp → VK → Prop := fun xs H Q => ∃ p ys, xs = [.ref p] ∧ (SqL K H p ys ∨ SqT K H p ys) ∧ ∀ l, H l = none → Q (.ref l) (upd H l (.lst ys))
theorem sem_list : SemC K (rLstA K) [true] (m1 lstD) := sem1 fun H F x v d Q s r ho q => by
  unfold lstD at ho
  split at ho
  · cases ho
    obtain ⟨a, xs, rfl, hs, rr⟩ := r.list s
    exact ⟨a, xs, rfl, .inl hs, new_lst s q rr⟩
  · cases ho
    obtain ⟨a, xs, rfl, hf, hs, rr⟩ := r.tuple s
    exact ⟨a, xs, rfl, .inr hs, new_lst s q rr⟩
  · cases ho
theorem sem_sum : SemC K (rSum K) [true] (m1 sumD) := sem1 fun H F x v d Q s r ho q => by
  unfold sumD at ho
  split at ho
  · obtain ⟨ns, h1, rfl⟩ := Option.map_eq_some_iff.mp ho
    obtain ⟨a, xs, rfl, hs, rr⟩ := r.list s
    have e := rr.intsL h1
    subst e
    exact ⟨a, ns, rfl, hs, same_q s q (.int _)⟩
  · cases ho
theorem maxI_spec : ∀ {ns : List Int} {m : Int}, maxI ns = some m → m ∈ ns ∧ ∀ y ∈ ns, y ≤ m
  | [], _, h => by cases h
  | [a], m, h => by
    cases h
    exact ⟨List.mem_singleton.mpr rfl, fun y hy => by rw [List.mem_singleton.mp hy]; exact Int.le_refl _⟩
  | a :: b :: r, m, h => by
    obtain ⟨k, h1, h2⟩ := Option.map_eq_some_iff.mp (show (maxI (b :: r)).map _ = some m from h)
    obtain ⟨i1, i2⟩ := maxI_spec h1
    subst h2
    refine ⟨?_, fun y hy => ?_⟩
    · rcases Int.le_total a k with q | q
      · rw [show max a k = k by omega]; exact List.mem_cons_of_mem _ i1
      · rw [show max a k = a by omega]; exact List.mem_cons_self
    · rcases List.mem_cons.mp hy with rfl | hy
      · omega
      · have := i2 y hy; omega
theorem minI_spec : ∀ {ns : List Int} {m : Int}, minI ns = some m → m ∈ ns ∧ ∀ y ∈ ns, m ≤ y
  | [], _, h => by cases h
  | [a], m, h => by
    cases h
    exact ⟨List.mem_singleton.mpr rfl, fun y hy => by rw [List.mem_singleton.mp hy]; exact Int.le_refl _⟩
  | a :: b :: r, m, h => by
    obtain ⟨k, h1, h2⟩ := Option.map_eq_some_iff.mp (show (minI (b :: r)).map _ = some m from h)
    obtain ⟨i1, i2⟩ := minI_spec h1
    subst h2
    refine ⟨?_, fun y hy => ?_⟩
    · rcases Int.le_total a k with q | q
      · rw [show min a k = a by omega]; exact List.mem_cons_self
      · rw [show min a k = k by omega]; exact List.mem_cons_of_mem _ i1
    · rcases List.mem_cons.mp hy with rfl | hy
      · omega
      · have := i2 y hy; omega
theorem sem_max : SemC K (rMax K) [true] (m1 maxD) := sem1 fun H F x v d Q s r ho q => by
  unfold maxD at ho
  split at ho
  · obtain ⟨m, h1, rfl⟩ := Option.map_eq_some_iff.mp ho
    obtain ⟨ns, h2, h3⟩ := Option.bind_eq_some_iff.mp h1
    obtain ⟨a, xs, rfl, hs, rr⟩ := r.list s
    have e := rr.intsL h2
    subst e
    obtain ⟨i1, i2⟩ := maxI_spec h3
    refine ⟨a, ns, rfl, hs, List.length_pos_of_mem i1, fun m' j1 j2 => ?_⟩
    have e1 := i2 m' j1
    have e2 := j2 m i1
    rw [show m' = m by omega]
    exact same_q s q (.int _)
  · cases ho
theorem sem_min : SemC K (rMin K) [true] (m1 minD) := sem1 fun H F x v d Q s r ho q => by
  unfold minD at ho
  split at ho
  · obtain ⟨m, h1, rfl⟩ := Option.map_eq_some_iff.mp ho
    obtain ⟨ns, h2, h3⟩ := Option.bind_eq_some_iff.mp h1
    obtain ⟨a, xs, rfl, hs, rr⟩ := r.list s
    have e := rr.intsL h2
    subst e
    obtain ⟨i1, i2⟩ := minI_spec h3
    refine ⟨a, ns, rfl, hs, List.length_pos_of_mem i1, fun m' j1 j2 => ?_⟩
    have e1 := i2 m' j1
    have e2 := j2 m i1
    rw [show m' = m by omega]
    exact same_q s q (.int _)
  · cases ho
def rMax2 : List V → Hp → VK → Prop := fun xs H Q => ∃ i j, xs = [.int i, .int j] ∧ Q (.int (if j > i then j else i)) H
def rMin2 : List V → Hp → VK → Prop := fun xs H Q => ∃ i j, xs = [.int i, .int j] ∧ Q (.int (if j < i then j else i)) H
theorem sem_max2 : SemC K rMax2 [true, true] (m2 max2D) := sem2 fun H F x y v w d Q s r1 r2 ho q => by
  unfold max2D at ho
  split at ho
  · cases ho
    refine ⟨_, _, by rw [r1.int, r2.int], ?_⟩
    rename_i i j
    rw [show (if j > i then j else i) = max i j by split <;> omega]
    exact same_q s q (.int _)
  · cases ho
theorem sem_min2 : SemC K rMin2 [true, true] (m2 min2D) := sem2 fun H F x y v w d Q s r1 r2 ho q => by
  unfold min2D at ho
  split at ho
  · cases ho
    refine ⟨_, _, by rw [r1.int, r2.int], ?_⟩
    rename_i i j
    rw [show (if j < i then j else i) = min i j by split <;> omega]
    exact same_q s q (.int _)
  · cases ho
theorem sem_all : SemC K (rAll K) [true] (m1 allD) := sem1 fun H F x v d Q s r ho q => by
  unfold allD at ho
  split at ho
  · obtain ⟨ns, h1, rfl⟩ := Option.map_eq_some_iff.mp ho
    obtain ⟨a, xs, rfl, hs, rr⟩ := r.list s
    have e := rr.boolsL h1
    subst e
    exact ⟨a, ns, rfl, hs, same_q s q (.bl _)⟩
  · cases ho
theorem sem_any : SemC K (rAny K) [true] (m1 anyD) := sem1 fun H F x v d Q s r ho q => by
  unfold anyD at ho
  split at ho
  · obtain ⟨ns, h1, rfl⟩ := Option.map_eq_some_iff.mp ho
    obtain ⟨a, xs, rfl, hs, rr⟩ := r.list s
    have e := rr.boolsL h1
    subst e
    exact ⟨a, ns, rfl, hs, same_q s q (.bl _)⟩
  · cases ho
def rInt1 : List V → Hp → VK → Prop := fun xs H Q => (∃ i, xs = [.int i] ∧ Q (.int i) H) ∨ ∃ k, xs = [.bl k] ∧ Q (.int (if k then 1 else 0)) H
def rBool1 : List V → Hp → VK → Prop := fun xs H Q => (∃ i, xs = [.int i] ∧ Q (.bl (i != 0)) H) ∨ ∃ k, xs = [.bl k] ∧ Q (.bl k) H
theorem sem_intc : SemC K rInt1 [true] (m1 intD) := sem1 fun H F x v d Q s r ho q => by
  unfold intD at ho
  split at ho
  · cases ho; exact .inl ⟨_, by rw [r.int], same_q s q (.int _)⟩
  · cases ho; exact .inr ⟨_, by rw [r.bool], same_q s q (.int _)⟩
  · cases ho
theorem sem_boolc : SemC K rBool1 [true] (m1 boolD) := sem1 fun H F x v d Q s r ho q => by
  unfold boolD at ho
  split at ho
  · cases ho; exact .inl ⟨_, by rw [r.int], same_q s q (.bl _)⟩
  · cases ho; exact .inr ⟨_, by rw [r.bool], same_q s q (.bl _)⟩
  · cases ho

/-! ### sorted, ints -/
def insI (x : Int) : List Int → List Int
  | [] => [x]
  | y :: r => if x ≤ y then x :: y :: r else y :: insI x r
def sortI : List Int → List Int
  | [] => []
  | x :: r => insI x (sortI r)
theorem insI_perm (x : Int) : ∀ l : List Int, (insI x l).Perm (x :: l)
  | [] => .refl _
  | y :: r => by
    unfold insI
    split
    · exact .refl _
    · exact ((insI_perm x r).cons y).trans (.swap x y r)
theorem sortI_perm : ∀ l : List Int, (sortI l).Perm l
  | [] => .refl _
  | x :: r => (insI_perm x _).trans ((sortI_perm r).cons x)
theorem insI_sorted (x : Int) : ∀ {l : List Int}, l.Pairwise (· ≤ ·) → (insI x l).Pairwise (· ≤ ·)
  | [], _ => by unfold insI; simp
  | y :: r, h => by
    have hc := List.pairwise_cons.mp h
    unfold insI
    split
    · rename_i hx
      refine List.pairwise_cons.mpr ⟨fun z hz => ?_, h⟩
      rcases List.mem_cons.mp hz with rfl | hz
      · exact hx
      · have := hc.1 z hz; omega
    · rename_i hx
      refine List.pairwise_cons.mpr ⟨fun z hz => ?_, insI_sorted x hc.2⟩
      rcases List.mem_cons.mp ((insI_perm x r).mem_iff.mp hz) with rfl | hz
      · omega
      · exact hc.1 z hz
theorem sortI_sorted : ∀ l : List Int, (sortI l).Pairwise (· ≤ ·)
  | [] => .nil
  | x :: r => insI_sorted x (sortI_sorted r)
theorem sorted_one {l l' : List Int} (p : l.Perm l') (h : l.Pairwise (· ≤ ·)) (h' : l'.Pairwise (· ≤ ·)) : l = l' := p.eq_of_pairwise (fun a b _ _ h1 h2 => Int.le_antisymm h1 h2) h h'
def mapInt (l : List Int) : List D := l.map .int
theorem reps_ints {ns : List Int} : Reps K F (ns.map V.int) (ns.map PyData.int) := by
  induction ns with
  | nil => exact .nil
  | cons n r ih => exact .cons (.int n) ih
def sortIntD : D → Option D
  | .list ds => (intsL ds).map fun ns => .list ((sortI ns).map .int)
  | _ => none
theorem sem_sortInt : SemC K (rSortedI K) [true] (m1 sortIntD) := sem1 fun H F x v d Q s r ho q => by
  unfold sortIntD at ho
  split at ho
  · obtain ⟨ns, h1, rfl⟩ := Option.map_eq_some_iff.mp ho
    obtain ⟨a, xs, rfl, hs, rr⟩ := r.list s
    have e := rr.intsL h1
    subst e
    refine ⟨a, ns, rfl, hs, fun ns' p hp hw hn => ?_⟩
    have e := sorted_one (hp.trans (sortI_perm ns).symm) hw (sortI_sorted ns)
    subst e
    exact new_lst s q reps_ints p hn
  · cases ho
end

section
variable {X : Cx} {e a b : Expr} {f g : F1} {pos p : Pos}
theorem x_len (hg : Gl X "len") (hm : X.mg "len" = none) (ha : PB X a f) (h1 : starEach [a] X.env = (false, eval a X.env) :: starEach [] X.env := by rfl) : PX X (.Call (.Name "len" p) [a] [] pos) (fCall (m1 lenD) [f]) := x_bi cr_len sem_len hg hm PySem.boot_len (ar_bor ha ar_nil h1) (h1 := h1)
theorem x_tupleC (hg : Gl X "tuple") (hm : X.mg "tuple" = none) (ha : PB X a f) (h1 : starEach [a] X.env = (false, eval a X.env) :: starEach [] X.env := by rfl) : PX X (.Call (.Name "tuple" p) [a] [] pos) (fCall (m1 tupD) [f]) := x_ty call_tuple_of sem_tuple hg hm PyProof.Rows.boot_tuple (ar_bor ha ar_nil h1) (h1 := h1)
theorem x_listC (hg : Gl X "list") (hm : X.mg "list" = none) (ha : PB X a f) (h1 : starEach [a] X.env = (false, eval a X.env) :: starEach [] X.env := by rfl) : PX X (.Call (.Name "list" p) [a] [] pos) (fCall (m1 lstD) [f]) := x_ty call_list_of sem_list hg hm PyProof.Rows.boot_list (ar_bor ha ar_nil h1) (h1 := h1)
theorem x_sum (hc : X.calm = true) (hg : Gl X "sum") (hm : X.mg "sum" = none) (ha : PB X a f) (h1 : starEach [a] X.env = (false, eval a X.env) :: starEach [] X.env := by rfl) : PX X (.Call (.Name "sum" p) [a] [] pos) (fCall (m1 sumD) [f]) := x_bi (cr_sum hc) sem_sum hg hm (by decide +kernel) (ar_bor ha ar_nil h1) (h1 := h1)
theorem x_max (hc : X.calm = true) (hg : Gl X "max") (hm : X.mg "max" = none) (ha : PB X a f) (h1 : starEach [a] X.env = (false, eval a X.env) :: starEach [] X.env := by rfl) : PX X (.Call (.Name "max" p) [a] [] pos) (fCall (m1 maxD) [f]) := x_bi (cr_max hc) sem_max hg hm (by decide +kernel) (ar_bor ha ar_nil h1) (h1 := h1)
theorem x_min (hc : X.calm = true) (hg : Gl X "min") (hm : X.mg "min" = none) (ha : PB X a f) (h1 : starEach [a] X.env = (false, eval a X.env) :: starEach [] X.env := by rfl) : PX X (.Call (.Name "min" p) [a] [] pos) (fCall (m1 minD) [f]) := x_bi (cr_min hc) sem_min hg hm (by decide +kernel) (ar_bor ha ar_nil h1) (h1 := h1)
theorem x_all (hc : X.calm = true) (hg : Gl X "all") (hm : X.mg "all" = none) (ha : PB X a f) (h1 : starEach [a] X.env = (false, eval a X.env) :: starEach [] X.env := by rfl) : PX X (.Call (.Name "all" p) [a] [] pos) (fCall (m1 allD) [f]) := x_bi (cr_all hc) sem_all hg hm (by decide +kernel) (ar_bor ha ar_nil h1) (h1 := h1)
theorem x_any (hc : X.calm = true) (hg : Gl X "any") (hm : X.mg "any" = none) (ha : PB X a f) (h1 : starEach [a] X.env = (false, eval a X.env) :: starEach [] X.env := by rfl) : PX X (.Call (.Name "any" p) [a] [] pos) (fCall (m1 anyD) [f]) := x_bi (cr_any hc) sem_any hg hm (by decide +kernel) (ar_bor ha ar_nil h1) (h1 := h1)
theorem x_intC (hg : Gl X "int") (hm : X.mg "int" = none) (ha : PB X a f) (h1 : starEach [a] X.env = (false, eval a X.env) :: starEach [] X.env := by rfl) : PX X (.Call (.Name "int" p) [a] [] pos) (fCall (m1 intD) [f]) := x_ty call_int1 sem_intc hg hm (by decide +kernel) (ar_bor ha ar_nil h1) (h1 := h1)
theorem x_boolC (hg : Gl X "bool") (hm : X.mg "bool" = none) (ha : PB X a f) (h1 : starEach [a] X.env = (false, eval a X.env) :: starEach [] X.env := by rfl) : PX X (.Call (.Name "bool" p) [a] [] pos) (fCall (m1 boolD) [f]) := x_ty call_bool1 sem_boolc hg hm (by decide +kernel) (ar_bor ha ar_nil h1) (h1 := h1)
theorem x_sortInt (hg : Gl X "sorted") (hm : X.mg "sorted" = none) (ha : PB X a f) (h1 : starEach [a] X.env = (false, eval a X.env) :: starEach [] X.env := by rfl) : PX X (.Call (.Name "sorted" p) [a] [] pos) (fCall (m1 sortIntD) [f]) := x_bi cr_sortedI sem_sortInt hg hm (by decide +kernel) (ar_bor ha ar_nil h1) (h1 := h1)
theorem x_max2 (hc : X.calm = true) (hg : Gl X "max") (hm : X.mg "max" = none) (ha : PB X a f) (hb : PB X b g) (h1 : starEach [a, b] X.env = (false, eval a X.env) :: starEach [b] X.env := by rfl) (h2 : starEach [b] X.env = (false, eval b X.env) :: starEach [] X.env := by rfl)
    (hpl : (backTo pos (starEach [b] X.env)).any (·.1) = false := by rfl) : PX X (.Call (.Name "max" p) [a, b] [] pos) (fCall (m2 max2D) [f, g]) := x_bi (call_max2 hc) sem_max2 hg hm (by decide +kernel) (ar_bor ha (ar_bor hb ar_nil h2) h1) (h1 := h1) (hpl := hpl)
theorem x_min2 (hc : X.calm = true) (hg : Gl X "min") (hm : X.mg "min" = none) (ha : PB X a f) (hb : PB X b g) (h1 : starEach [a, b] X.env = (false, eval a X.env) :: starEach [b] X.env := by rfl) (h2 : starEach [b] X.env = (false, eval b X.env) :: starEach [] X.env := by rfl)
    (hpl : (backTo pos (starEach [b] X.env)).any (·.1) = false := by rfl) : PX X (.Call (.Name "min" p) [a, b] [] pos) (fCall (m2 min2D) [f, g]) := x_bi (call_min2 hc) sem_min2 hg hm (by decide +kernel) (ar_bor ha (ar_bor hb ar_nil h2) h1) (h1 := h1) (hpl := hpl)
end
end Pu
set_option maxRecDepth 100000
/-! isinstance, calls of own defs, what is walked, statements, loops. -/
namespace Pu
open PySem PySem.Spec PyProof.Rows L2

/-! ### isinstance -/
def tyName : D → String
  | .none => "NoneType"
  | .bool _ => "bool"
  | .int _ => "int"
  | .str _ => "str"
  | .list _ => "list"
  | .tuple _ => "tuple"
  | .dict _ => "dict"
theorem RepB.tyX {K : PySem.W.Frag} {H F : Hp} {v : V} {d : D} (r : RepB K H F v d) (s : Same F H) (n : ∀ kvs, d ≠ .dict kvs) : TyX K H v (.type (tyName d)) := by
  cases d with
  | none => rw [r.none]; exact .base .non
  | bool b => rw [r.bool]; exact .base (.bl b)
  | int i => rw [r.int]; exact .base (.int i)
  | str x => rw [r.str.1]; exact .base (.str x)
  | list ds =>
    obtain ⟨a, xs, rfl, h, _⟩ := r.list s
    rcases h with (h | ⟨o, h⟩) | ⟨o, its, m, h1, h2, _⟩
    · exact .base (.lst h)
    · exact .base (.frz h)
    · exact .kList h1 h2
  | tuple ds =>
    obtain ⟨a, xs, rfl, h, _, _⟩ := r.tuple s
    exact .base (.tup (s _ _ h))
  | dict kvs => exact absurd rfl (n kvs)
theorem isInst_some {t : Ty} {d e : D} (h : isInst t d = some e) : (∀ kvs, d ≠ .dict kvs) ∧ e = .bool (isT t d) := by
  cases d <;> first | (cases h; done) | (cases h; exact ⟨fun _ z => (by cases z), rfl⟩)
def tyStr : Ty → String
  | .int => "int"
  | .bool => "bool"
  | .str => "str"
  | .tuple => "tuple"
  | .list => "list"
  | .seq => "list"
theorem kit_int : ∀ d : D, (∀ kvs, d ≠ .dict kvs) → kitB (tyName d) "int" = some (isT .int d)
  | .none, _ => by
    change kitB "NoneType" "int" = some false
    decide +kernel
  | .bool _, _ => by
    change kitB "bool" "int" = some true
    decide +kernel
  | .int _, _ => by
    change kitB "int" "int" = some true
    decide +kernel
  | .str _, _ => by
    change kitB "str" "int" = some false
    decide +kernel
  | .list _, _ => by
    change kitB "list" "int" = some false
    decide +kernel
  | .tuple _, _ => by
    change kitB "tuple" "int" = some false
    decide +kernel
  | .dict kvs, n => absurd rfl (n kvs)
theorem kit_bool : ∀ d : D, (∀ kvs, d ≠ .dict kvs) → kitB (tyName d) "bool" = some (isT .bool d)
  | .none, _ => by
    change kitB "NoneType" "bool" = some false
    decide +kernel
  | .bool _, _ => by
    change kitB "bool" "bool" = some true
    decide +kernel
  | .int _, _ => by
    change kitB "int" "bool" = some false
    decide +kernel
  | .str _, _ => by
    change kitB "str" "bool" = some false
    decide +kernel
  | .list _, _ => by
    change kitB "list" "bool" = some false
    decide +kernel
  | .tuple _, _ => by
    change kitB "tuple" "bool" = some false
    decide +kernel
  | .dict kvs, n => absurd rfl (n kvs)
theorem kit_str : ∀ d : D, (∀ kvs, d ≠ .dict kvs) → kitB (tyName d) "str" = some (isT .str d)
  | .none, _ => by
    change kitB "NoneType" "str" = some false
    decide +kernel
  | .bool _, _ => by
    change kitB "bool" "str" = some false
    decide +kernel
  | .int _, _ => by
    change kitB "int" "str" = some false
    decide +kernel
  | .str _, _ => by
    change kitB "str" "str" = some true
    decide +kernel
  | .list _, _ => by
    change kitB "list" "str" = some false
    decide +kernel
  | .tuple _, _ => by
    change kitB "tuple" "str" = some false
    decide +kernel
  | .dict kvs, n => absurd rfl (n kvs)
theorem kit_tuple : ∀ d : D, (∀ kvs, d ≠ .dict kvs) → kitB (tyName d) "tuple" = some (isT .tuple d)
  | .none, _ => by
    change kitB "NoneType" "tuple" = some false
    decide +kernel
  | .bool _, _ => by
    change kitB "bool" "tuple" = some false
    decide +kernel
  | .int _, _ => by
    change kitB "int" "tuple" = some false
    decide +kernel
  | .str _, _ => by
    change kitB "str" "tuple" = some false
    decide +kernel
  | .list _, _ => by
    change kitB "list" "tuple" = some false
    decide +kernel
  | .tuple _, _ => by
    change kitB "tuple" "tuple" = some true
    decide +kernel
  | .dict kvs, n => absurd rfl (n kvs)
theorem kit_list : ∀ d : D, (∀ kvs, d ≠ .dict kvs) → kitB (tyName d) "list" = some (isT .list d)
  | .none, _ => by
    change kitB "NoneType" "list" = some false
    decide +kernel
  | .bool _, _ => by
    change kitB "bool" "list" = some false
    decide +kernel
  | .int _, _ => by
    change kitB "int" "list" = some false
    decide +kernel
  | .str _, _ => by
    change kitB "str" "list" = some false
    decide +kernel
  | .list _, _ => by
    change kitB "list" "list" = some true
    decide +kernel
  | .tuple _, _ => by
    change kitB "tuple" "list" = some false
    decide +kernel
  | .dict kvs, n => absurd rfl (n kvs)
section
variable {X : Cx} {e a b : Expr} {f g : F1} {pos p : Pos}
/-- isinstance(x, T): tn the type's name -/
theorem x_isi {t : Ty} {x : Str} {tn : String} {p2 : Pos} (hg : Gl X "isinstance") (hm : X.mg "isinstance" = none) (hg2 : Gl X x) (hm2 : X.mg x = none) (hv2 : bootBuiltins x = some (.type tn)) (hk : ∀ d : D, (∀ kvs, d ≠ .dict kvs) → kitB (tyName d) tn = some (isT t d)) (ha : PB X a f)
    (hn : x ≠ "__name__" := by decide) (hdb : (x == ("__debug__" : Str)) = false := by decide)
    (h1 : starEach [a, .Name x p2] X.env = (false, eval a X.env) :: starEach [.Name x p2] X.env := by rfl) (h2 : starEach [.Name x p2] X.env = (false, eval (.Name x p2) X.env) :: starEach [] X.env := by rfl) (hpl : (backTo pos (starEach [.Name x p2] X.env)).any (·.1) = false := by rfl) :
    PX X (.Call (.Name "isinstance" p) [a, .Name x p2] [] pos) (f1 (isInst t) f) := by
  have ht : PE X (.Name x p2) (tC (.ty tn)) := pe_bltn hg2 hm2 hv2 rfl hn hdb
  refine peImp (pe_callB call_isi hg hm PyProof.Rows.boot_isinstance (pa_cons ha (pa_cons ht pa_nil h2) h1) (by decide) (by decide) h1 hpl) fun σ H Q ⟨H0, F0, F, ρ, d, S, hd, q⟩ => ?_
  obtain ⟨y, hy, ho⟩ := f1_some hd
  obtain ⟨nd, rfl⟩ := isInst_some ho
  refine ⟨H0, F0, F, ρ, y, S, hy, fun H1 F1 v e1 r1 => ?_⟩
  exact ⟨v, .ty tn, _, _, _, rfl, .ty tn, r1.tyX e1.sub nd, kit_ty (hk y nd), q H1 F1 _ e1 (.bl _)⟩
theorem kit_seq (d : D) (n : ∀ kvs, d ≠ .dict kvs) (K : PySem.W.Frag) : PySem.W.kitAny K (.type (tyName d)) [.type "list", .type "tuple"] = some (isT .seq d) := by
  have h1 := kit_ty (K := K) (kit_list d n)
  have h2 := kit_ty (K := K) (kit_tuple d n)
  refine kitAny_cons h1 (fun e1 => kitAny_cons h2 (fun e2 => ?_) fun e2 => ?_) fun e1 => ?_
  · have : isT .seq d = false := by
      cases d <;> first | rfl | (simp [isT] at e1; done) | (simp [isT] at e2; done)
    rw [this]
    rfl
  · cases d <;> first | (simp [isT] at e2; done) | rfl
  · cases d <;> first | (simp [isT] at e1; done) | rfl
/-- isinstance(x, (list, tuple)) -/
theorem x_isiLT {k : Nat} {pl pt p2 : Pos} (hg : Gl X "isinstance") (hm : X.mg "isinstance" = none) (hgl : Gl X "list") (hml : X.mg "list" = none) (hgt : Gl X "tuple") (hmt : X.mg "tuple" = none) (ha : PB X a f)
    (h1 : starEach [a, .Tuple [.Name "list" pl, .Name "tuple" pt] k p2] X.env = (false, eval a X.env) :: starEach [.Tuple [.Name "list" pl, .Name "tuple" pt] k p2] X.env := by rfl)
    (h2 : starEach [.Tuple [.Name "list" pl, .Name "tuple" pt] k p2] X.env = (false, eval (.Tuple [.Name "list" pl, .Name "tuple" pt] k p2) X.env) :: starEach [] X.env := by rfl)
    (hpl : (backTo pos (starEach [.Tuple [.Name "list" pl, .Name "tuple" pt] k p2] X.env)).any (·.1) = false := by rfl)
    (h3 : starEach [.Name "list" pl, .Name "tuple" pt] X.env = (false, eval (.Name "list" pl) X.env) :: starEach [.Name "tuple" pt] X.env := by rfl) (h4 : starEach [.Name "tuple" pt] X.env = (false, eval (.Name "tuple" pt) X.env) :: starEach [] X.env := by rfl) :
    PX X (.Call (.Name "isinstance" p) [a, .Tuple [.Name "list" pl, .Name "tuple" pt] k p2] [] pos) (f1 (isInst .seq) f) := by
  have tl : PE X (.Name "list" pl) (tC (.ty "list")) := pe_bltn hgl hml PyProof.Rows.boot_list rfl
  have tt : PE X (.Name "tuple" pt) (tC (.ty "tuple")) := pe_bltn hgt hmt PyProof.Rows.boot_tuple rfl
  have T : PE X (.Tuple [.Name "list" pl, .Name "tuple" pt] k p2) _ := pe_tup (pa_cons tl (pa_cons tt pa_nil h4) h3)
  refine peImp (pe_callB call_isiT hg hm PyProof.Rows.boot_isinstance (pa_cons ha (pa_cons T pa_nil h2) h1) (by decide) (by decide) h1 hpl) fun σ H Q ⟨H0, F0, F, ρ, d, S, hd, q⟩ => ?_
  obtain ⟨y, hy, ho⟩ := f1_some hd
  obtain ⟨nd, rfl⟩ := isInst_some ho
  refine ⟨H0, F0, F, ρ, y, S, hy, fun H1 F1 v e1 r1 => ⟨by show 2 ≤ sizeLine; rw [sizeLine_eq]; omega, fun t ht => ?_⟩⟩
  have g : Same H1 (upd H1 t (.tup [.ty "list", .ty "tuple"])) := same_upd ht
  have e2 : Ext H F (upd H1 t (.tup [.ty "list", .ty "tuple"])) F1 := e1.trans (Ext.aside e1.sub g)
  exact ⟨v, t, _, _, _, _, rfl, upd_same, .cons (.ty "list") (.cons (.ty "tuple") .nil), (r1.mono g (Same.refl _)).tyX e2.sub nd, kit_seq y nd X.K, q _ F1 _ e2 (.bl _)⟩
end

/-! ### own defs -/
def slots : List Bool → List D → List Slot
  | true :: ms, d :: ds => .bor d :: slots ms ds
  | false :: ms, d :: ds => .val d :: slots ms ds
  | _, _ => []
/-- a def's promise: it answers as the mirror m -/
def spP (K : PySem.W.Frag) (ms : List Bool) (m : Fn) : Sp := fun vs H Q _ => ∃ (F : Hp) (ds : List D) (d : D), Same F H ∧ RepsM K H F ms vs ds ∧ m ds = some d ∧ ∀ H' F' v, Ext H F H' F' → Rep K F' v d → Q v H'
theorem x_call {X : Cx} {k : Nat} {f : Addr} {fd : FuncData} {ps : List Str} {ms : List Bool} {m : Fn} {x : Str} {p pos : Pos} {e : Expr} {es : List Expr} {fs : List F1}
    (G : FnOk X.prog X.w X.K X.mg X.base CX0 k f fd ps (spP X.K ms m)) (hr : Room k X.A) (hg : Gl X x) (hm : X.mg x = some (.ref f)) (hk : PySem.W.keepIn X.K (.ref f) = true) (hb : Binds X.K fd ps []) (ha : PAr X (e :: es) ms (fArgs fs))
    (hdb : (x == ("__debug__" : Str)) = false := by decide) (h1 : starEach (e :: es) X.env = (false, eval e X.env) :: starEach es X.env := by rfl) (hpl : (backTo pos (starEach es X.env)).any (·.1) = false := by rfl) :
    PX X (.Call (.Name x p) (e :: es) [] pos) (fCall m fs) := peImp (pe_call G hr hg hm hk hb .nil pass0 ha hdb h1 hpl) fun σ H Q ⟨H0, F0, F, ρ, d, S, hd, q⟩ => by
  obtain ⟨ds, hds, hm⟩ := Option.bind_eq_some_iff.mp hd
  refine ⟨H0, F0, F, ρ, ds, S, hds, fun H1 F1 vs e1 r1 => ?_⟩
  show spP X.K ms m (vs ++ []) H1 Q E0
  rw [List.append_nil]
  exact ⟨F1, ds, d, e1.sub, r1, hm, fun H' F' v e r => q H' F' v (e1.trans e) r⟩

/-! ### statements -/
/-- what a def hands back: a value; or (fr) a new list or dict that nothing else holds -/
def RtP (K : PySem.W.Frag) (fr : Bool) (H0 H' F' : Hp) (v : V) (d : D) : Prop := match fr with
  | true => ∃ p o, v = .ref p ∧ F' p = none ∧ H0 p = none ∧ H' p = some o ∧ RepO K F' o d
  | false => Rep K F' v d
/-- what is wanted behind a statement's mirror -/
def Nx (K : PySem.W.Frag) (fr : Bool) (H0 F0 F : Hp) (E : Ends) : Out → Prop
  | .nx ρ' => ∀ (σ' : L2.St) (H' F' : Hp), St K H0 F0 H' F' σ' ρ' → Same F F' → E.nx σ' H'
  | .rt d => ∀ (H' F' : Hp) (v : V), Ext H0 F0 H' F' → RtP K fr H0 H' F' v d → E.rt v H'
def tS (K : PySem.W.Frag) (fr : Bool) (g : G) : TS := fun E σ H => ∃ (H0 F0 F : Hp) (ρ : Rho) (o : Out), St K H0 F0 H F σ ρ ∧ g ρ = some o ∧ Nx K fr H0 F0 F E o
abbrev SX (X : Cx) (fr : Bool) (st : Stmt) (g : G) : Prop := PS X st (tS X.K fr g)
abbrev SXs (X : Cx) (fr : Bool) (st : List Stmt) (g : G) : Prop := PSs X st (tS X.K fr g)
theorem psImp {X : Cx} {st : Stmt} {t t' : TS} (h : PS X st t) (w : ∀ D σ H, t' D σ H → t D σ H) : PS X st t' := ⟨fun pins s σ H D I q => h.run pins s σ H D I (w _ _ _ q)⟩
theorem pssImp {X : Cx} {st : List Stmt} {t t' : TS} (h : PSs X st t) (w : ∀ D σ H, t' D σ H → t D σ H) : PSs X st t' := ⟨fun pins s σ H D I q => h.run pins s σ H D I (w _ _ _ q)⟩
theorem St.toExt {K : PySem.W.Frag} {H0 F0 H F : Hp} {σ : L2.St} {ρ : Rho} (S : St K H0 F0 H F σ ρ) : Ext H0 F0 H F := ⟨S.h, S.f, S.sub, S.new⟩
theorem nxMono {K : PySem.W.Frag} {fr : Bool} {H0 F0 F F1 : Hp} {E : Ends} {o : Out} (m : Same F F1) (q : Nx K fr H0 F0 F E o) : Nx K fr H0 F0 F1 E o := by
  cases o with
  | nx ρ => exact fun σ' H' F' S z => q σ' H' F' S (m.trans z)
  | rt d => exact q
section
variable {X : Cx} {fr : Bool} {st : Stmt} {rest sts a b : List Stmt} {g h : G} {e c : Expr} {f : F1} {t : FB} {pos : Pos}
theorem s_nil : SXs X fr [] gSkip := pssImp pss_nil fun D σ H ⟨H0, F0, F, ρ, o, S, hd, q⟩ => by
  cases hd
  exact q σ H F S (Same.refl _)
theorem s_one (p : SX X fr st g) : SXs X fr [st] g := pss_one p
theorem s_cons (p : SX X fr st g) (r : SXs X fr rest h) : SXs X fr (st :: rest) (gSeq g h) := pssImp (pss_cons p r) fun D σ H ⟨H0, F0, F, ρ, o, S, hd, q⟩ => by
  obtain ⟨o1, h1, h2⟩ := Option.bind_eq_some_iff.mp hd
  cases o1 with
  | nx ρ1 =>
    refine ⟨H0, F0, F, ρ, .nx ρ1, S, h1, fun σ1 H1 F1 S1 m1 => ⟨H0, F0, F1, ρ1, o, S1, h2, ?_⟩⟩
    exact nxMono m1 q
  | rt d =>
    cases h2
    exact ⟨H0, F0, F, ρ, .rt d, S, h1, q⟩
theorem s_ret (p : PX X e f) : SX X false (.Return (some e) pos) (gRet f) := psImp (ps_ret p) fun D σ H ⟨H0, F0, F, ρ, o, S, hd, q⟩ => by
  obtain ⟨d, h1, rfl⟩ := Option.map_eq_some_iff.mp hd
  exact ⟨H0, F0, F, ρ, d, S, h1, fun H1 F1 v e1 r1 => q H1 F1 v (S.toExt.trans e1) r1⟩
theorem s_if (p : PTs' X c t) (pa : SXs X fr a g) (pb : SXs X fr b h) : SX X fr (.If c a b pos) (gIf t g h) := psImp (ps_if p pa pb) fun D σ H ⟨H0, F0, F, ρ, o, S, hd, q⟩ => by
  obtain ⟨k, h1, h2⟩ := Option.bind_eq_some_iff.mp hd
  refine ⟨H0, F0, F, ρ, k, S, h1, fun H1 F1 e1 => ?_⟩
  cases k with
  | true => exact iteT ⟨H0, F0, F1, ρ, o, S.ext e1, h2, nxMono e1.f q⟩
  | false => exact iteF ⟨H0, F0, F1, ρ, o, S.ext e1, h2, nxMono e1.f q⟩
/-- x = e -/
theorem s_set {i : Nat} {x : Str} {pos' : Pos} (hN : X.N.Nodup) (hi : X.N[i]? = some x) (hx : Loc X.env.scope x) (he : PX X e f) (hs : swapsWith e (some (.Name x pos')) pos.line X.env = pure false := by rfl)
    (hf : X.fn x = true ∨ X.env.scope.names.lookup x = some .local := by first | exact .inl rfl | exact .inr rfl | assumption) : SX X fr (.Assign [.Name x pos'] e pos) (gSet i f) := psImp (ps_set hN hi hx he hs hf) fun D σ H ⟨H0, F0, F, ρ, o, S, hd, q⟩ => by
  obtain ⟨d, h1, rfl⟩ := Option.map_eq_some_iff.mp hd
  exact ⟨H0, F0, F, ρ, d, S, h1, fun H1 F1 v e1 r1 => q _ H1 F1 ((S.ext e1).set i r1) e1.f⟩

/-! ### targets -/
/-- no slot's own object stands at p -/
def Apart (σ : L2.St) (ρ : Rho) (p : Addr) : Prop := ∀ (j : Nat) (dj : D), ρ[j]? = some (.own dj) → σ[j]? ≠ some (some (.ref p))
theorem Apart.set {σ : L2.St} {ρ : Rho} {p : Addr} (h : Apart σ ρ p) (i : Nat) (x : Option V) (s : Slot) (ns : ∀ d, s ≠ .own d) : Apart (σ.set i x) (ρ.set i s) p := fun j dj h1 h2 => by
  by_cases e : i = j
  · subst e
    have hl : i < ρ.length := by
      have := (List.getElem?_eq_some_iff.mp h1).1
      simpa using this
    rw [List.getElem?_set_self hl] at h1
    cases h1
    exact ns _ rfl
  · rw [List.getElem?_set_ne e] at h1 h2
    exact h j dj h1 h2
theorem Apart.wipe {σ : L2.St} {ρ : Rho} {p : Addr} (h : Apart σ ρ p) : ∀ vs : List Nat, Apart (L2.wipe σ vs) (wipeR ρ vs) p
  | [] => h
  | v :: vs => (Apart.wipe h vs).set v none .no fun _ z => (by cases z)
structure TgOk (K : PySem.W.Frag) (is : List Nat) (g : TG) (tg : TgF) : Prop where
  run : ∀ (H0 F0 F H : Hp) (σ : L2.St) (ρ ρ' : Rho) (v : V) (d : D) (Q : L2.St → Hp → Prop), St K H0 F0 H F σ ρ → Rep K F v d → tg d ρ = some ρ' → (∀ σ', St K H0 F0 H F σ' ρ' → L2.wipe σ' is = L2.wipe σ is → (∀ p, Apart σ ρ p → Apart σ' ρ' p) → Q σ' H) → g v σ H Q
theorem wipe_set {is : List Nat} {i : Nat} {x : Option V} : ∀ {σ : L2.St}, i ∈ is → L2.wipe (σ.set i x) is = L2.wipe σ is := by
  induction is with
  | nil => intro σ h; cases h
  | cons j js ih =>
    intro σ h
    unfold L2.wipe
    by_cases e : i ∈ js
    · rw [ih e]
    · have e' : i = j := by
        rcases List.mem_cons.mp h with h | h
        · exact h
        · exact absurd h e
      subst e'
      clear ih h
      have aux : ∀ {js : List Nat} {σ : L2.St}, i ∉ js → L2.wipe (σ.set i x) js = (L2.wipe σ js).set i x := by
        intro js
        induction js with
        | nil => intro σ _; rfl
        | cons k ks ih =>
          intro σ hk
          have h1 : i ≠ k := fun z => hk (by simp [z])
          have h2 : i ∉ ks := fun z => hk (by simp [z])
          unfold L2.wipe
          rw [ih h2, List.set_comm _ _ h1]
      rw [aux e, List.set_set]
theorem tg_name (K : PySem.W.Frag) {is : List Nat} {i : Nat} (h : i ∈ is) : TgOk K is (gName i) (gN i) := ⟨fun H0 F0 F H σ ρ ρ' v d Q S r hd q => by
  cases hd
  exact q _ (S.set i r) (wipe_set h) fun p a => a.set i _ _ fun _ z => (by cases z)⟩
theorem tg_two (K : PySem.W.Frag) {is : List Nat} {i j : Nat} (h : i ∈ is) (h' : j ∈ is) : TgOk K is (gTup K 2 (gCons (gName i) (gCons (gName j) gNil))) (gT2 i j) := ⟨fun H0 F0 F H σ ρ ρ' v d Q S r hd q => by
  unfold gT2 at hd
  split at hd
  · cases hd
    cases r with
    | tup ht rr =>
      cases rr with
      | cons r1 rr =>
        cases rr with
        | cons r2 rr =>
          cases rr
          refine ⟨_, _, rfl, .of (S.sub _ _ ht), rfl, _, _, rfl, _, _, rfl, rfl, ?_⟩
          exact q _ ((S.set i r1).set j r2) (by rw [wipe_set h', wipe_set h]) fun p a => (a.set i _ _ fun _ z => (by cases z)).set j _ _ fun _ z => (by cases z)
  · cases hd⟩
theorem tg_three (K : PySem.W.Frag) {is : List Nat} {i j k : Nat} (h : i ∈ is) (h' : j ∈ is) (h'' : k ∈ is) : TgOk K is (gTup K 3 (gCons (gName i) (gCons (gName j) (gCons (gName k) gNil)))) (gT3 i j k) := ⟨fun H0 F0 F H σ ρ ρ' v d Q S r hd q => by
  unfold gT3 at hd
  split at hd
  · cases hd
    cases r with
    | tup ht rr =>
      cases rr with
      | cons r1 rr =>
        cases rr with
        | cons r2 rr =>
          cases rr with
          | cons r3 rr =>
            cases rr
            refine ⟨_, _, rfl, .of (S.sub _ _ ht), rfl, _, _, rfl, _, _, rfl, _, _, rfl, rfl, ?_⟩
            exact q _ (((S.set i r1).set j r2).set k r3) (by rw [wipe_set h'', wipe_set h', wipe_set h]) fun p a => ((a.set i _ _ fun _ z => (by cases z)).set j _ _ fun _ z => (by cases z)).set k _ _ fun _ z => (by cases z)
  · cases hd⟩
/-- a, b = e -/
theorem s_asg {tg : Expr} {is : List Nat} {w : TG} {tf : TgF} (he : PX X e f) (hg : PG X tg w) (ht : TgOk X.K is w tf) (hs : swapsWithSole [tg] e pos.line X.env = pure false := by rfl) (hw : swappedStores [tg] e X.env = pure none := by rfl)
    (h1 : (assignEach [tg] X.env).map (·.2) = [assign tg X.env] := by rfl) : SX X fr (.Assign [tg] e pos) (gAsg f tf) := psImp (ps_asg he hg hs hw h1) fun D σ H ⟨H0, F0, F, ρ, o, S, hd, q⟩ => by
  obtain ⟨d, h1, h2⟩ := Option.bind_eq_some_iff.mp hd
  obtain ⟨ρ', h3, rfl⟩ := Option.map_eq_some_iff.mp h2
  exact ⟨H0, F0, F, ρ, d, S, h1, fun H1 F1 v e1 r1 => ht.run H0 F0 F1 H1 σ ρ ρ' v d _ (S.ext e1) r1 h3 fun σ' S' _ _ => q σ' H1 F1 S' e1.f⟩

/-! ### while -/
theorem s_while {n : Nat} {body : List Stmt} (hp : PassesOwn (model X.prog X.w) X.A X.env X.xe) (hc : PTs' X c t) (hb : SXs X fr body g) : SX X fr (.While c body [] pos) (gWhile n t g) := psImp (ps_while hp hc hb) fun D σ H ⟨H0, F0, F, ρ, o, S, hd, q⟩ => by
  refine ⟨fun m σ H => ∃ F' ρ, St X.K H0 F0 H F' σ ρ ∧ Same F F' ∧ whileN t g m ρ = some o, ⟨n, F, ρ, S, Same.refl _, hd⟩, fun m σ H ⟨F', ρ, S, fz, hd⟩ => ?_⟩
  have q := nxMono (o := o) fz q
  have fz' := fz
  cases m with
  | zero => cases hd
  | succ m =>
    obtain ⟨k, h1, h2⟩ := Option.bind_eq_some_iff.mp hd
    refine ⟨H0, F0, F', ρ, k, S, h1, fun H1 F1 e1 => ?_⟩
    cases k with
    | false =>
      cases h2
      exact iteF (q σ H1 F1 (S.ext e1) e1.f)
    | true =>
      obtain ⟨o1, h3, h4⟩ := Option.bind_eq_some_iff.mp h2
      refine iteT ⟨fun σ H => ∃ F2 ρ, St X.K H0 F0 H F2 σ ρ ∧ Same F F2 ∧ whileN t g m ρ = some o, fun σ' H' w => ⟨m, Nat.lt_succ_self m, w⟩, ?_⟩
      cases o1 with
      | nx ρ1 => exact ⟨H0, F0, F1, ρ, .nx ρ1, S.ext e1, h3, fun σ' H' F2 S' z => ⟨F2, ρ1, S', (fz'.trans e1.f).trans z, h4⟩⟩
      | rt d =>
        cases h4
        exact ⟨H0, F0, F1, ρ, .rt d, S.ext e1, h3, q⟩

/-! ### what is walked -/
/-- at any later state (B kept, F1 frozen) the iterator yields the items ds -/
def Yld (K : PySem.W.Frag) (J : It) (B F1 : Hp) (ds : List D) : Prop := ∀ (i : Nat) (H F : Hp), Same B H → Same F1 F → Same F H →
  (i < ds.length → J.go i H) ∧ (i = ds.length → J.stop i H) ∧ ∀ x H' d, ds[i]? = some d → J.yld i H x H' → ∃ F', Ext H F H' F' ∧ Rep K F' x d
/-- br: the walked list may be one that only a slot holds (no such list is changed meanwhile) -/
def tI (K : PySem.W.Frag) (br : Bool) (src : FA) : TI := fun σ H R => ∃ (H0 F0 F : Hp) (ρ : Rho) (ds : List D), St K H0 F0 H F σ ρ ∧ src ρ = some ds ∧ ∀ H' F' J, Ext H F H' F' → Yld K J (if br then H' else F') F' ds → R J H'
abbrev IX (X : Cx) (tg e : Expr) (br : Bool) (src : FA) : Prop := PI X tg e (tI X.K br src)
theorem piImp {tg : Expr} {w w' : TI} (h : PI X tg e w) (im : ∀ σ H R, w' σ H R → w σ H R) : PI X tg e w' := ⟨fun pins s σ H R I q => h.run pins s σ H R I (im _ _ _ q)⟩
theorem piOr {tg : Expr} {w w' : TI} (h : PI X tg e w) (h' : PI X tg e w') : PI X tg e (fun σ H R => w σ H R ∨ w' σ H R) := ⟨fun pins s σ H R I q => by
  rcases q with q | q
  · exact h.run pins s σ H R I q
  · exact h'.run pins s σ H R I q⟩
theorem s_for {iter tg : Expr} {body : List Stmt} {is : List Nat} {w : TG} {tf : TgF} {src : FA} (hp : PassesOwn (model X.prog X.w) X.A X.env X.xe) (hc : X.calm = true) (hi : IX X tg iter false src) (hg : PG X tg w) (ht : TgOk X.K is w tf) (hb : SXs X fr body g)
    (hs : ∀ x, foldedSetIterable iter X.env x = pure x := by intro _; rfl) : SX X fr (.For tg iter body [] pos) (gFor src tf g) := psImp (ps_for hp hc hi hg hb hs) fun D σ H ⟨H0, F0, F, ρ, o, S, hd, q⟩ => by
  obtain ⟨ds, h1, h2⟩ := Option.bind_eq_some_iff.mp hd
  refine ⟨H0, F0, F, ρ, ds, S, h1, fun H1 F1 J e1 y => ?_⟩
  have y : Yld X.K J F1 F1 ds := y
  refine ⟨fun i m σ H => m = ds.length - i ∧ i ≤ ds.length ∧ ∃ F' ρ, St X.K H0 F0 H F' σ ρ ∧ Same F1 F' ∧ forL tf g (ds.drop i) ρ = some o, ⟨ds.length, by simp, Nat.zero_le _, F1, ρ, S.ext e1, Same.refl _, by simpa using h2⟩, ?_⟩
  rintro i m σ H ⟨rfl, hi, F3, ρ, S, fz, hf⟩
  have q := nxMono (o := o) (e1.f.trans fz) q
  obtain ⟨y1, y2, y3⟩ := y i H F3 (fz.trans S.sub) fz S.sub
  by_cases hlt : i < ds.length
  · have hdr : ds.drop i = ds[i] :: ds.drop (i + 1) := List.drop_eq_getElem_cons hlt
    rw [hdr] at hf
    obtain ⟨ρ1, h3, h4⟩ := Option.bind_eq_some_iff.mp hf
    obtain ⟨o1, h5, h6⟩ := Option.bind_eq_some_iff.mp h4
    refine .inr ⟨y1 hlt, fun σ H => ∃ F' ρ, St X.K H0 F0 H F' σ ρ ∧ Same F1 F' ∧ forL tf g (ds.drop (i + 1)) ρ = some o, fun σ' H' ⟨F', ρ', S', z, w⟩ => ⟨_, by omega, rfl, hlt, F', ρ', S', z, w⟩, fun x H' yy => ?_⟩
    obtain ⟨F2, e2, r2⟩ := y3 x H' ds[i] (by simp [hlt]) yy
    refine ht.run H0 F0 F2 H' σ ρ ρ1 x _ _ (S.ext e2) r2 h3 fun σ' S' _ _ => ?_
    cases o1 with
    | nx ρ2 => exact ⟨H0, F0, F2, ρ1, .nx ρ2, S', h5, fun σ3 H3 F4 S3 z => ⟨F4, ρ2, S3, (fz.trans e2.f).trans z, h6⟩⟩
    | rt d =>
      cases h6
      exact ⟨H0, F0, F2, ρ1, .rt d, S', h5, q⟩
  · have e : ds.drop i = [] := List.drop_eq_nil_of_le (by omega)
    rw [e] at hf
    cases hf
    exact .inl ⟨y2 (by omega), q σ H F3 S (Same.refl _)⟩
end
end Pu
set_option maxRecDepth 100000
/-! New objects, sources, comprehensions, a def's body. -/
namespace Pu
open PySem PySem.Spec PyProof.Rows L2

/-! ### a new list or dict -/
def tF (K : PySem.W.Frag) (f : F1) : TE := fun σ H Q => ∃ (H0 F0 F : Hp) (ρ : Rho) (d : D), St K H0 F0 H F σ ρ ∧ f ρ = some d ∧ ∀ H' F' p o, Ext H F H' F' → F' p = none → H p = none → H' p = some o → RepO K F' o d → Q (.ref p) H'
abbrev PF (X : Cx) (e : Expr) (f : F1) : Prop := PE X e (tF X.K f)
theorem Ext.frz {H F : Hp} (s : Same F H) {p : Addr} {o : HO} (hp : H p = some o) (fp : F p = none) : Same F (upd F p o) ∧ Same (upd F p o) H := by
  refine ⟨fun b u h => by rw [upd_ne (ne_of_none h fp)]; exact h, fun b u h => ?_⟩
  by_cases e : b = p
  · subst e; rw [upd_same] at h; cases h; exact hp
  · rw [upd_ne e] at h; exact s _ _ h
/-- what an own object becomes when nobody writes it any more -/
theorem frozen {X : Cx} {pins : List (Addr × Obj)} {σ : L2.St} {s : Shared} {H F : Hp} {p : Addr} {o : HO} {d : D} (I : Inv X pins σ H s) (sub : Same F H) (hp : H p = some o) (fp : F p = none) (r : RepO X.K F o d) :
    ∃ u, Inv X pins σ (upd H p u) s ∧ Same F (upd F p u) ∧ Same (upd F p u) (upd H p u) ∧ Rep X.K (upd F p u) (.ref p) d := by
  have g : ∀ u : HO, Same F (upd F p u) := fun u => same_upd fp
  have g2 : ∀ u : HO, Same (upd F p u) (upd H p u) := fun u b w h => by
    by_cases e : b = p
    · subst e; rw [upd_same] at h ⊢; exact h
    · rw [upd_ne e] at h ⊢; exact sub _ _ h
  unfold RepO at r
  split at r
  · rename_i xs ds
    have e : upd H p (.lst xs) = H := by
      funext b
      unfold upd
      split
      · rename_i z; subst z; exact hp.symm
      · rfl
    refine ⟨.lst xs, by rw [e]; exact I, g _, g2 _, .lst (.inl (.inl upd_same)) (r.mono (g _))⟩
  · rename_i kvs ds
    obtain ⟨od, J⟩ := I.lock hp trivial
    exact ⟨_, J, g _, g2 _, .dK upd_same (r.mono (g _))⟩
  · rename_i kvs ds
    obtain ⟨od, J⟩ := I.lock hp trivial
    exact ⟨_, J, g _, g2 _, .dT upd_same (r.mono (g _))⟩
  · exact r.elim
section
variable {X : Cx} {e : Expr} {f : F1}
theorem PF.toX (h : PF X e f) : PX X e f := ⟨fun pins s σ H Q I ⟨H0, F0, F, ρ, d, S, hd, q⟩ => by
  refine thn (h.run pins s σ H (fun v H' => ∃ F' p o, v = .ref p ∧ Ext H F H' F' ∧ F' p = none ∧ H p = none ∧ H' p = some o ∧ RepO X.K F' o d) I ⟨H0, F0, F, ρ, d, S, hd, fun H' F' p o e1 h1 h2 h3 h4 => ⟨F', p, o, rfl, e1, h1, h2, h3, h4⟩⟩) fun v s1 hv => ?_
  obtain ⟨x, H1, I1, r1, F1, p, o, rfl, e1, h1, h2, h3, h4⟩ := hv
  obtain ⟨u, I2, g1, g2, r2⟩ := frozen I1 e1.sub h3 h1 h4
  refine ⟨.ref p, _, I2, r1, q _ _ _ ⟨fun b w hb => ?_, e1.f.trans g1, g2, fun b w hb => ?_⟩ r2⟩
  · rw [upd_ne (ne_of_none hb h2)]; exact e1.h _ _ hb
  · by_cases e : b = p
    · subst e; exact .inr h2
    · rw [upd_ne e] at hb; exact e1.new _ _ hb⟩
/-- as own object, any list that has just been made -/
theorem new_own {K : PySem.W.Frag} {H F : Hp} {Q : VK} {xs : List V} {ds : List D} (s : Same F H) (q : ∀ H' F' p o, Ext H F H' F' → F' p = none → H p = none → H' p = some o → RepO K F' o (.list ds) → Q (.ref p) H') (r : Reps K F xs ds) : ∀ p, H p = none → Q (.ref p) (upd H p (.lst xs)) := fun p hp =>
  q _ F p _ (Ext.aside s (same_upd hp)) (s.free hp) hp upd_same r
end
section
variable {X : Cx} {e a b : Expr} {es : List Expr} {f g : F1} {fs : List F1} {ms : List Bool} {pos p : Pos}
theorem f_lst (ha : PAr X es ms (fArgs fs)) (hm : allV ms = true := by rfl) (hl : decide (ms.length ≤ 1000) = true := by rfl) : PF X (.List es pos) (fLst fs) := peImp (pe_lst ha) fun σ H Q ⟨H0, F0, F, ρ, d, S, hd, q⟩ => by
  obtain ⟨ds, hds, rfl⟩ := Option.map_eq_some_iff.mp hd
  refine ⟨H0, F0, F, ρ, ds, S, hds, fun H1 F1 vs e1 r1 => ⟨?_, new_own e1.sub (fun H' F' p o e h1 h2 h3 h4 => q H' F' p o (e1.trans e) h1 (e1.h.free h2) h3 h4) (r1.all hm)⟩⟩
  rw [r1.length, sizeLine_eq]
  have := of_decide_eq_true hl
  omega
theorem f_listC (hg : Gl X "list") (hm : X.mg "list" = none) (ha : PB X a f) (h1 : starEach [a] X.env = (false, eval a X.env) :: starEach [] X.env := by rfl) : PF X (.Call (.Name "list" p) [a] [] pos) (fCall (m1 lstD) [f]) :=
  peImp (pe_callTy call_list_of hg hm PyProof.Rows.boot_list (pa_cons ha pa_nil h1) (by decide) (by decide) h1) fun σ H Q ⟨H0, F0, F, ρ, d, S, hd, q⟩ => by
  obtain ⟨ds, hds, ho⟩ := Option.bind_eq_some_iff.mp hd
  obtain ⟨x, hx, h2⟩ := Option.bind_eq_some_iff.mp hds
  obtain ⟨ys, h3, h4⟩ := Option.bind_eq_some_iff.mp h2
  cases h3
  cases h4
  refine ⟨H0, F0, F, ρ, x, S, hx, fun H1 F1 v e1 r1 => ?_⟩
  have q' : ∀ (ds : List D), d = .list ds → ∀ H' F' p o, Ext H1 F1 H' F' → F' p = none → H1 p = none → H' p = some o → RepO X.K F' o (.list ds) → Q (.ref p) H' := fun ds ed H' F' p o e h1 h2 h3 h4 => by
    subst ed
    exact q H' F' p o (e1.trans e) h1 (e1.h.free h2) h3 h4
  unfold m1 lstD at ho
  simp only at ho
  split at ho
  · cases ho
    obtain ⟨a, xs, rfl, hs, rr⟩ := r1.list e1.sub
    exact ⟨a, xs, rfl, .inl hs, new_own e1.sub (q' _ rfl) rr⟩
  · cases ho
    obtain ⟨a, xs, rfl, hf, hs, rr⟩ := r1.tuple e1.sub
    exact ⟨a, xs, rfl, .inr hs, new_own e1.sub (q' _ rfl) rr⟩
  · cases ho
end

/-! ### statements with new objects -/
section
variable {K : PySem.W.Frag} {H0 F0 H F H' F' : Hp} {σ : L2.St} {ρ : Rho}
theorem St.noOwn (S : St K H0 F0 H F σ ρ) {p : Addr} (hp : H p = none) : ∀ (j : Nat) (dj : D), ρ[j]? = some (.own dj) → σ[j]? ≠ some (some (.ref p)) := fun j dj h1 h2 => by
  obtain ⟨q, u, e, _, _, hq, _⟩ := S.sl j _ _ h1 h2
  cases e
  rw [hp] at hq; cases hq
theorem set_lt {α : Type} {l : List α} {i : Nat} {x y : α} (h : (l.set i x)[i]? = some y) : i < l.length := by
  have := (List.getElem?_eq_some_iff.mp h).1
  simpa using this
theorem St.putOwn (S : St K H0 F0 H F σ ρ) (i : Nat) {p : Addr} {o : HO} {d : D} (fp : F p = none) (h0 : H0 p = none) (hp : H p = some o) (r : RepO K F o d)
    (no : ∀ (j : Nat) (dj : D), ρ[j]? = some (.own dj) → σ[j]? ≠ some (some (.ref p))) : St K H0 F0 H F (σ.set i (some (.ref p))) (ρ.set i (.own d)) := by
  refine ⟨S.h, S.f, S.sub, S.new, by simp [S.len], fun j s x h1 h2 => ?_, fun j k dj dk q hjk h1 h2 h3 h4 => ?_⟩
  · by_cases e : i = j
    · subst e
      have hl := set_lt h1
      rw [List.getElem?_set_self hl] at h1
      rw [List.getElem?_set_self (by rw [← S.len]; exact hl)] at h2
      cases h1; cases h2
      exact ⟨p, o, rfl, fp, h0, hp, r⟩
    · rw [List.getElem?_set_ne e] at h1 h2
      exact S.sl j s x h1 h2
  · by_cases ej : i = j
    · subst ej
      have hl := set_lt h1
      rw [List.getElem?_set_self (by rw [← S.len]; exact hl)] at h3
      cases h3
      rw [List.getElem?_set_ne hjk] at h2 h4
      exact no k dk h2 h4
    · rw [List.getElem?_set_ne ej] at h1 h3
      by_cases ek : i = k
      · subst ek
        have hl := set_lt h2
        rw [List.getElem?_set_self (by rw [← S.len]; exact hl)] at h4
        cases h4
        exact no j dj h1 h3
      · rw [List.getElem?_set_ne ek] at h2 h4
        exact S.dj j k dj dk q hjk h1 h2 h3 h4
/-- an own object frozen -/
theorem St.freeze (S : St K H0 F0 H F σ ρ) {i : Nat} {p : Addr} {u : HO} {d : D} (hi : ρ[i]? = some (.own d)) (hσ : σ[i]? = some (some (.ref p))) (g1 : Same F (upd F p u)) (g2 : Same (upd F p u) (upd H p u)) (r : Rep K (upd F p u) (.ref p) d) :
    St K H0 F0 (upd H p u) (upd F p u) σ (ρ.set i (.val d)) := by
  obtain ⟨p', o', e, f0, h0, hp, _⟩ := S.sl i _ _ hi hσ
  cases e
  have hl : i < ρ.length := (List.getElem?_eq_some_iff.mp hi).1
  refine ⟨fun b w q => ?_, S.f.trans g1, g2, fun b w q => ?_, by simp [S.len], fun j s x h1 h2 => ?_, fun j k dj dk q hjk h1 h2 h3 h4 => ?_⟩
  · rw [upd_ne (ne_of_none q h0)]; exact S.h _ _ q
  · by_cases e : b = p
    · subst e; exact .inr h0
    · rw [upd_ne e] at q; exact S.new _ _ q
  · by_cases e : i = j
    · subst e
      rw [List.getElem?_set_self hl] at h1
      rw [hσ] at h2
      cases h1; cases h2
      exact ⟨_, rfl, r⟩
    · rw [List.getElem?_set_ne e] at h1
      have q := S.sl j s x h1 h2
      cases s with
      | no => trivial
      | val d =>
        obtain ⟨v, e1, r1⟩ := q
        exact ⟨v, e1, r1.mono g1⟩
      | bor d =>
        obtain ⟨v, e1, r1⟩ := q
        exact ⟨v, e1, r1.mono (Same.refl _) g1⟩
      | own d2 =>
        obtain ⟨q, w, e1, f1, h1', hq, r'⟩ := q
        have ne : q ≠ p := fun z => by
          subst z
          exact S.dj i j d d2 q e hi h1 hσ (by rw [h2, e1])
        exact ⟨q, w, e1, by rw [upd_ne ne]; exact f1, h1', by rw [upd_ne ne]; exact hq, r'.mono g1⟩
  · have aux : ∀ (m : Nat) (dm : D), (ρ.set i (.val d))[m]? = some (.own dm) → ρ[m]? = some (.own dm) := fun m dm z => by
      by_cases e : i = m
      · subst e; rw [List.getElem?_set_self hl] at z; cases z
      · rw [List.getElem?_set_ne e] at z; exact z
    exact S.dj j k dj dk q hjk (aux j dj h1) (aux k dk h2) h3 h4
end
section
variable {X : Cx} {fr : Bool} {e a b : Expr} {f g : F1} {st : Stmt} {w : G} {pos : Pos}
theorem s_own {i : Nat} {x : Str} {pos' : Pos} (hN : X.N.Nodup) (hi : X.N[i]? = some x) (hx : Loc X.env.scope x) (he : PF X e f) (hs : swapsWith e (some (.Name x pos')) pos.line X.env = pure false := by rfl)
    (hf : X.fn x = true ∨ X.env.scope.names.lookup x = some .local := by first | exact .inl rfl | exact .inr rfl | assumption) : SX X fr (.Assign [.Name x pos'] e pos) (gOwn i f) := psImp (ps_set hN hi hx he hs hf) fun D σ H ⟨H0, F0, F, ρ, o, S, hd, q⟩ => by
  obtain ⟨d, h1, rfl⟩ := Option.map_eq_some_iff.mp hd
  exact ⟨H0, F0, F, ρ, d, S, h1, fun H1 F1 p o e1 f1 hp h1 r1 => q _ H1 F1 ((S.ext e1).putOwn i f1 (S.h.free hp) h1 r1 (S.noOwn hp)) e1.f⟩
/-- a ghost step: the slot's object is a value from here on -/
theorem s_frz (i : Nat) (h : SX X fr st w) : SX X fr st (gFrz i w) := ⟨fun pins s σ H E I ⟨H0, F0, F, ρ, o, S, hd, q⟩ => by
  unfold gFrz at hd
  cases e : atR ρ i with
  | no => rw [e] at hd; cases hd
  | val d => rw [e] at hd; cases hd
  | bor d => rw [e] at hd; cases hd
  | own d =>
    rw [e] at hd
    obtain ⟨hi, x, hσ, p, ob, rfl, f0, h0, hp, r⟩ := S.at e (by simp)
    obtain ⟨u, I2, g1, g2, r2⟩ := frozen I S.sub hp f0 r
    exact h.run pins s σ _ E I2 ⟨H0, F0, _, _, o, S.freeze hi hσ g1 g2 r2, hd, nxMono g1 q⟩⟩
/-- return of a new list or dict -/
theorem s_retF (p : PF X e f) : SX X true (.Return (some e) pos) (gRet f) := psImp (ps_ret p) fun D σ H ⟨H0, F0, F, ρ, o, S, hd, q⟩ => by
  obtain ⟨d, h1, rfl⟩ := Option.map_eq_some_iff.mp hd
  exact ⟨H0, F0, F, ρ, d, S, h1, fun H1 F1 p o e1 f1 hp h1 r1 => q H1 F1 _ (S.toExt.trans e1) ⟨p, o, rfl, f1, S.h.free hp, h1, r1⟩⟩
/-- return of what only the slot holds -/
def gRetOwn (i : Nat) : G := fun ρ => match atR ρ i with
  | .own d => some (.rt d)
  | _ => none
theorem s_retOwn (i : Nat) {x : Str} {pos' : Pos} (hN : X.N[i]? = some x := by rfl) (hv : Vis X.env.scope x := by first | exact Or.inl rfl | exact Or.inr (Or.inl rfl) | exact Or.inr (Or.inr rfl)) (hd : (x == ("__debug__" : Str)) = false := by decide)
    (hcd : (x == ("__classdict__" : Str)) = false := by decide) : SX X true (.Return (some (.Name x pos')) pos) (gRetOwn i) := psImp (ps_ret (pv i hN hv hd hcd)) fun D σ H ⟨H0, F0, F, ρ, o, S, hd, q⟩ => by
  unfold gRetOwn at hd
  cases e : atR ρ i with
  | no => rw [e] at hd; cases hd
  | val d => rw [e] at hd; cases hd
  | bor d => rw [e] at hd; cases hd
  | own d =>
    rw [e] at hd
    cases hd
    obtain ⟨hi, x, hσ, p, ob, rfl, f0, h0, hp, r⟩ := S.at e (by simp)
    exact ⟨_, hσ, q H F _ S.toExt ⟨p, ob, rfl, f0, h0, hp, r⟩⟩

/-! ### a, b = x, y -/
def gPar (i j : Nat) (oi oj : Bool) (f g : F1) : G := fun ρ => (f ρ).bind fun x => (g ρ).bind fun y => some (.nx ((ρ.set i (if oi then .own x else .val x)).set j (if oj then .own y else .val y)))
section
variable {i j : Nat} {x y : Str} {px py pt p2 : Pos} {kt k2 : Nat}
theorem gPar_some {oi oj : Bool} {ρ : Rho} {o : Out} (h : gPar i j oi oj f g ρ = some o) : ∃ x y, f ρ = some x ∧ g ρ = some y ∧ o = .nx ((ρ.set i (if oi then .own x else .val x)).set j (if oj then .own y else .val y)) := by
  obtain ⟨x, h1, h2⟩ := Option.bind_eq_some_iff.mp h
  obtain ⟨y, h3, h4⟩ := Option.bind_eq_some_iff.mp h2
  exact ⟨x, y, h1, h3, (Option.some.inj h4).symm⟩
theorem s_parVV (hc : X.calm = true) (hN : X.N.Nodup) (hi : X.N[i]? = some x) (hj : X.N[j]? = some y) (hij : i ≠ j) (hx : X.env.scope.names.lookup x = some .local) (hy : X.env.scope.names.lookup y = some .local) (ha : PX X a f) (hb : PX X b g)
    (hw : swappedStores [.Tuple [.Name x px, .Name y py] kt pt] (.Tuple [a, b] k2 p2) X.env = pure (some [x, y])) (hs : swapsWithSole [.Tuple [.Name x px, .Name y py] kt pt] (.Tuple [a, b] k2 p2) pos.line X.env = pure false := by rfl)
    (h1 : starEach [a, b] X.env = (false, eval a X.env) :: starEach [b] X.env := by rfl) (h2 : starEach [b] X.env = (false, eval b X.env) :: starEach [] X.env := by rfl) : SX X fr (.Assign [.Tuple [.Name x px, .Name y py] kt pt] (.Tuple [a, b] k2 p2) pos) (gPar i j false false f g) :=
  psImp (ps_par hc hN hi hj hij hx hy (pa_cons ha (pa_cons hb pa_nil h2) h1) hw hs) fun D σ H ⟨H0, F0, F, ρ, o, S, hd, q⟩ => by
  obtain ⟨d1, d2, g1, g2, rfl⟩ := gPar_some hd
  refine ⟨H0, F0, F, ρ, d1, S, g1, fun H1 F1 v1 e1 r1 => ⟨H0, F0, F1, ρ, d2, S.ext e1, g2, fun H2 F2 v2 e2 r2 => ⟨_, _, rfl, ?_⟩⟩⟩
  exact q _ H2 F2 ((((S.ext e1).ext e2).set i (r1.mono e2.f)).set j r2) (e1.f.trans e2.f)
theorem s_parOV (hc : X.calm = true) (hN : X.N.Nodup) (hi : X.N[i]? = some x) (hj : X.N[j]? = some y) (hij : i ≠ j) (hx : X.env.scope.names.lookup x = some .local) (hy : X.env.scope.names.lookup y = some .local) (ha : PF X a f) (hb : PX X b g)
    (hw : swappedStores [.Tuple [.Name x px, .Name y py] kt pt] (.Tuple [a, b] k2 p2) X.env = pure (some [x, y])) (hs : swapsWithSole [.Tuple [.Name x px, .Name y py] kt pt] (.Tuple [a, b] k2 p2) pos.line X.env = pure false := by rfl)
    (h1 : starEach [a, b] X.env = (false, eval a X.env) :: starEach [b] X.env := by rfl) (h2 : starEach [b] X.env = (false, eval b X.env) :: starEach [] X.env := by rfl) : SX X fr (.Assign [.Tuple [.Name x px, .Name y py] kt pt] (.Tuple [a, b] k2 p2) pos) (gPar i j true false f g) :=
  psImp (ps_par hc hN hi hj hij hx hy (pa_cons ha (pa_cons hb pa_nil h2) h1) hw hs) fun D σ H ⟨H0, F0, F, ρ, o, S, hd, q⟩ => by
  obtain ⟨d1, d2, g1, g2, rfl⟩ := gPar_some hd
  refine ⟨H0, F0, F, ρ, d1, S, g1, fun H1 F1 p o1 e1 fp hp h1 r1 => ⟨H0, F0, F1, ρ, d2, S.ext e1, g2, fun H2 F2 v2 e2 r2 => ⟨_, _, rfl, ?_⟩⟩⟩
  have fp2 : F2 p = none := by
    cases z : F2 p with
    | none => rfl
    | some u =>
      rcases e2.new p u z with z | z
      · rw [fp] at z; cases z
      · rw [h1] at z; cases z
  exact q _ H2 F2 ((((S.ext e1).ext e2).putOwn i fp2 (S.h.free hp) (e2.h _ _ h1) (r1.mono e2.f) (S.noOwn hp)).set j r2) (e1.f.trans e2.f)
theorem s_parVO (hc : X.calm = true) (hN : X.N.Nodup) (hi : X.N[i]? = some x) (hj : X.N[j]? = some y) (hij : i ≠ j) (hx : X.env.scope.names.lookup x = some .local) (hy : X.env.scope.names.lookup y = some .local) (ha : PX X a f) (hb : PF X b g)
    (hw : swappedStores [.Tuple [.Name x px, .Name y py] kt pt] (.Tuple [a, b] k2 p2) X.env = pure (some [x, y])) (hs : swapsWithSole [.Tuple [.Name x px, .Name y py] kt pt] (.Tuple [a, b] k2 p2) pos.line X.env = pure false := by rfl)
    (h1 : starEach [a, b] X.env = (false, eval a X.env) :: starEach [b] X.env := by rfl) (h2 : starEach [b] X.env = (false, eval b X.env) :: starEach [] X.env := by rfl) : SX X fr (.Assign [.Tuple [.Name x px, .Name y py] kt pt] (.Tuple [a, b] k2 p2) pos) (gPar i j false true f g) :=
  psImp (ps_par hc hN hi hj hij hx hy (pa_cons ha (pa_cons hb pa_nil h2) h1) hw hs) fun D σ H ⟨H0, F0, F, ρ, o, S, hd, q⟩ => by
  obtain ⟨d1, d2, g1, g2, rfl⟩ := gPar_some hd
  refine ⟨H0, F0, F, ρ, d1, S, g1, fun H1 F1 v1 e1 r1 => ⟨H0, F0, F1, ρ, d2, S.ext e1, g2, fun H2 F2 p o2 e2 fp hp h2 r2 => ⟨_, _, rfl, ?_⟩⟩⟩
  have S2 := ((S.ext e1).ext e2).set i (r1.mono e2.f)
  refine q _ H2 F2 (S2.putOwn j fp (S.h.free (e1.h.free hp)) h2 r2 fun k dk z1 z2 => ?_) (e1.f.trans e2.f)
  by_cases e : i = k
  · subst e
    have hl := set_lt z1
    rw [List.getElem?_set_self hl] at z1; cases z1
  · rw [List.getElem?_set_ne e] at z1 z2
    exact S.noOwn (e1.h.free hp) k dk z1 z2
theorem s_parOO (hc : X.calm = true) (hN : X.N.Nodup) (hi : X.N[i]? = some x) (hj : X.N[j]? = some y) (hij : i ≠ j) (hx : X.env.scope.names.lookup x = some .local) (hy : X.env.scope.names.lookup y = some .local) (ha : PF X a f) (hb : PF X b g)
    (hw : swappedStores [.Tuple [.Name x px, .Name y py] kt pt] (.Tuple [a, b] k2 p2) X.env = pure (some [x, y])) (hs : swapsWithSole [.Tuple [.Name x px, .Name y py] kt pt] (.Tuple [a, b] k2 p2) pos.line X.env = pure false := by rfl)
    (h1 : starEach [a, b] X.env = (false, eval a X.env) :: starEach [b] X.env := by rfl) (h2 : starEach [b] X.env = (false, eval b X.env) :: starEach [] X.env := by rfl) : SX X fr (.Assign [.Tuple [.Name x px, .Name y py] kt pt] (.Tuple [a, b] k2 p2) pos) (gPar i j true true f g) :=
  psImp (ps_par hc hN hi hj hij hx hy (pa_cons ha (pa_cons hb pa_nil h2) h1) hw hs) fun D σ H ⟨H0, F0, F, ρ, o, S, hd, q⟩ => by
  obtain ⟨d1, d2, g1, g2, rfl⟩ := gPar_some hd
  refine ⟨H0, F0, F, ρ, d1, S, g1, fun H1 F1 p1 o1 e1 fp1 hp1 h1 r1 => ⟨H0, F0, F1, ρ, d2, S.ext e1, g2, fun H2 F2 p o2 e2 fp hp h2 r2 => ⟨_, _, rfl, ?_⟩⟩⟩
  have fp2 : F2 p1 = none := by
    cases z : F2 p1 with
    | none => rfl
    | some u =>
      rcases e2.new p1 u z with z | z
      · rw [fp1] at z; cases z
      · rw [h1] at z; cases z
  have S2 := ((S.ext e1).ext e2).putOwn i fp2 (S.h.free hp1) (e2.h _ _ h1) (r1.mono e2.f) (S.noOwn hp1)
  refine q _ H2 F2 (S2.putOwn j fp (S.h.free (e1.h.free hp)) h2 r2 fun k dk z1 z2 => ?_) (e1.f.trans e2.f)
  by_cases e : i = k
  · subst e
    have hl := set_lt z2
    rw [List.getElem?_set_self hl] at z2
    cases z2
    rw [h1] at hp; cases hp
  · rw [List.getElem?_set_ne e] at z1 z2
    exact S.noOwn (e1.h.free hp) k dk z1 z2
end
/-- x.append(e) -/
theorem s_app (i : Nat) {x : Str} {p1 p2 cpos : Pos} (he : PX X e f) (hN : X.N[i]? = some x := by rfl) (hv : Vis X.env.scope x := by first | exact Or.inl rfl | exact Or.inr (Or.inl rfl) | exact Or.inr (Or.inr rfl)) (hd : (x == ("__debug__" : Str)) = false := by decide)
    (hcd : (x == ("__classdict__" : Str)) = false := by decide) (hbase : attributeBase (.Name x p1) "append" X.env (eval (.Name x p1) X.env) = eval (.Name x p1) X.env := by rfl)
    (hfew : ((backTo cpos (starEach [e] X.env)).all (fun x => !x.1) && (backToKw cpos (keywordEach [] X.env)).all (fun x => x.1.isSome) && decide (([e] : List Expr).length + ([] : List Keyword).length + (if ([] : List Keyword).isEmpty then 0 else 1) < 30)) = true := by rfl)
    (hline : (p2.endLine == cpos.line) = true := by rfl) (h1 : starEach [e] X.env = (false, eval e X.env) :: starEach [] X.env := by rfl)
    (hs : swapsWith (.Call (.Attribute (.Name x p1) "append" p2) [e] [] cpos) none pos.line X.env = pure false := by rfl) : SX X fr (.Expr (.Call (.Attribute (.Name x p1) "append" p2) [e] [] cpos) pos) (gApp i f) :=
  psImp (ps_expr (pe_bm PySem.F.plainAttrs_list PySem.F.slot_list_append PySem.F.type_list_append mt_append (pv i hN hv hd hcd) (pa_cons he pa_nil h1) hbase hfew hline h1) hs) fun D σ H ⟨H0, F0, F, ρ, o, S, hd, q⟩ => by
  obtain ⟨y, hy, h2⟩ := Option.bind_eq_some_iff.mp hd
  cases e : atR ρ i with
  | no => rw [e] at h2; cases h2
  | val d => rw [e] at h2; cases h2
  | bor d => rw [e] at h2; cases h2
  | own d =>
    rw [e] at h2
    cases d <;> first | (cases h2; done) | skip
    rename_i ds
    simp only at h2
    split at h2
    · rename_i hz
      cases h2
      obtain ⟨hi, z, hσ, p, ob, rfl, f0, h0, hp, r⟩ := S.at e (by simp)
      unfold RepO at r
      split at r
      · rename_i xs ds' e'
        cases e'
        refine ⟨_, hσ, .inl ⟨rfl, _, .of hp⟩, H0, F0, F, ρ, y, S, hy, fun H1 F1 v e1 r1 => ⟨p, xs, v, rfl, rfl, e1.h _ _ hp, ?_, ?_⟩⟩
        · rw [r.length]; exact of_decide_eq_true hz
        · exact q σ _ F1 ((S.ext e1).change (o' := .lst (xs ++ [v])) hi hσ ((r.mono e1.f).snoc r1)) e1.f
      · rename_i z; cases z
      · rename_i z; cases z
      · exact r.elim
    · cases h2
end
end Pu
set_option maxRecDepth 100000
/-! Sources, comprehensions, a def's body. -/
namespace Pu
open PySem PySem.Spec PyProof.Rows L2

/-! ### lists, tuples, texts, dicts, ranges walked -/
section
variable {K : PySem.W.Frag} {B F1 H1 : Hp}
theorem yld_list {a : Addr} {xs : List V} {ds : List D} (hs : SqL K B a xs) (r : Reps K F1 xs ds) : Yld K (Itl K a) B F1 ds := fun i H F gB gF sub => by
  have hs' := gB.seq hs
  refine ⟨fun hi => ?_, fun hi => ⟨xs, hs', by rw [r.length]; omega⟩, fun x H' d hd hy => ?_⟩
  · have hx : i < xs.length := by rw [r.length]; exact hi
    exact ⟨xs, xs[i], hs', by simp [hx]⟩
  · obtain ⟨rfl, hx⟩ := hy
    obtain ⟨x', e, r'⟩ := r.get hd
    have := hx xs hs'
    rw [e] at this
    cases this
    exact ⟨F, Ext.refl sub, r'.mono gF⟩
theorem yld_tup {a : Addr} {xs : List V} {ds : List D} (hs : B a = some (.tup xs)) (r : Reps K F1 xs ds) : Yld K (Itt K a) B F1 ds := fun i H F gB gF sub => by
  have hs' : SqT K H a xs := .of (gB _ _ hs)
  refine ⟨fun hi => ?_, fun hi => ⟨xs, hs', by rw [r.length]; omega⟩, fun x H' d hd hy => ?_⟩
  · have hx : i < xs.length := by rw [r.length]; exact hi
    exact ⟨xs, xs[i], hs', by simp [hx]⟩
  · obtain ⟨rfl, hx⟩ := hy
    obtain ⟨x', e, r'⟩ := r.get hd
    have := hx xs hs'
    rw [e] at this
    cases this
    exact ⟨F, Ext.refl sub, r'.mono gF⟩
theorem yld_str {x : Str} (ok : PyData.strOk x = true) : Yld K (Its x) B F1 (x.cps.toList.map fun c => .str ⟨#[c]⟩) := fun i H F gB gF sub => by
  have hl : (x.cps.toList.map fun c => (PyData.str ⟨#[c]⟩)).length = x.cps.size := by simp
  rw [hl]
  refine ⟨fun hi => hi, fun hi => Nat.le_of_eq hi.symm, fun v H' d hd hy => ?_⟩
  obtain ⟨rfl, c, hc, rfl⟩ := hy
  have e : d = .str ⟨#[c]⟩ := by
    rw [List.getElem?_map] at hd
    have e2 : x.cps.toList[i]? = some c := by simpa using hc
    rw [e2] at hd
    exact (Option.some.inj hd).symm
  subst e
  refine ⟨F, Ext.refl sub, .str _ ?_⟩
  have hm : c ∈ x.cps := by
    obtain ⟨h1, h2⟩ := Array.getElem?_eq_some_iff.mp hc
    rw [← h2]; exact Array.getElem_mem h1
  unfold PyData.strOk at ok ⊢
  have := Array.all_eq_true_iff_forall_mem.mp ok c hm
  simpa using this
theorem rng_get : ∀ {n i : Nat} {lo : Int} {d : D}, (rngL n lo)[i]? = some d → d = .int (lo + i)
  | 0, i, lo, d, h => by simp [rngL] at h
  | n + 1, 0, lo, d, h => by
    simp [rngL] at h
    rw [← h]; simp
  | n + 1, i + 1, lo, d, h => by
    have h' : (rngL n (lo + 1))[i]? = some d := by simpa [rngL] using h
    rw [rng_get h']
    congr 1
    omega
theorem rng_len : ∀ (n : Nat) (lo : Int), (rngL n lo).length = n
  | 0, _ => rfl
  | n + 1, lo => congrArg (· + 1) (rng_len n (lo + 1))
theorem yld_rng {lo : Int} {n : Nat} : Yld K (Itr lo n) B F1 (rngL n lo) := fun i H F gB gF sub => by
  rw [rng_len]
  refine ⟨fun hi => hi, fun hi => Nat.le_of_eq hi.symm, fun v H' d hd hy => ?_⟩
  obtain ⟨rfl, rfl⟩ := hy
  rw [rng_get hd]
  exact ⟨F, Ext.refl sub, .int _⟩
theorem RepK.get : ∀ {kvs : List (L2.Key × V)} {ds : List (D × D)} {i : Nat} {kd : D × D}, RepK K F1 kvs ds → ds[i]? = some kd → ∃ k v, kvs[i]? = some (k, v) ∧ kd.1 = keyD k ∧ Rep K F1 (kV k) kd.1 ∧ Rep K F1 v kd.2
  | _, _, _, _, .nil, h => by simp at h
  | _, _, 0, _, .cons a b r, h => by simp at h; subst h; exact ⟨_, _, rfl, rfl, a, b⟩
  | _, _, i + 1, _, .cons a b r, h => by
    obtain ⟨k, v, h1, h2⟩ := RepK.get (i := i) r (by simpa using h)
    exact ⟨k, v, by simpa using h1, h2⟩
theorem RepK.length : ∀ {kvs : List (L2.Key × V)} {ds : List (D × D)}, RepK K F1 kvs ds → kvs.length = ds.length
  | _, _, .nil => rfl
  | _, _, .cons _ _ r => congrArg (· + 1) (RepK.length r)
theorem yld_keys {a : Addr} {o : Obj} {kvs : List (L2.Key × V)} {ds : List (D × D)} (hs : B a = some (.frz o (.dK kvs))) (r : RepK K F1 kvs ds) : Yld K (Itk a o kvs) B F1 (ds.map (·.1)) := fun i H F gB gF sub => by
  rw [List.length_map, ← r.length]
  refine ⟨fun hi => ⟨gB _ _ hs, hi⟩, fun hi => ⟨gB _ _ hs, Nat.le_of_eq hi.symm⟩, fun v H' d hd hy => ?_⟩
  obtain ⟨rfl, k, w, e, rfl⟩ := hy
  rw [List.getElem?_map] at hd
  obtain ⟨kd, h1, h2⟩ := Option.map_eq_some_iff.mp hd
  subst h2
  obtain ⟨k', v', e', _, rk, _⟩ := r.get h1
  rw [e] at e'
  cases e'
  exact ⟨F, Ext.refl sub, rk.mono gF⟩
theorem yld_items {a : Addr} {o : Obj} {kvs : List (L2.Key × V)} {ds : List (D × D)} (hs : B a = some (.frz o (.dK kvs))) (r : RepK K F1 kvs ds) : Yld K (Iti a o kvs) B F1 (ds.map fun kv => .tuple [kv.1, kv.2]) := fun i H F gB gF sub => by
  rw [List.length_map, ← r.length]
  refine ⟨fun hi => ⟨gB _ _ hs, hi⟩, fun hi => ⟨gB _ _ hs, Nat.le_of_eq hi.symm⟩, fun v H' d hd hy => ?_⟩
  obtain ⟨T, k, w, e, rfl, hT, rfl⟩ := hy
  rw [List.getElem?_map] at hd
  obtain ⟨kd, h1, h2⟩ := Option.map_eq_some_iff.mp hd
  subst h2
  obtain ⟨k', v', e', _, rk, rv⟩ := r.get h1
  rw [e] at e'
  cases e'
  exact ⟨_, Ext.laid sub _ hT, .tup upd_same (.cons (rk.mono (gF.trans (same_upd (sub.free hT)))) (.cons (rv.mono (gF.trans (same_upd (sub.free hT)))) .nil))⟩
theorem num_get : ∀ {ds : List D} {n i : Nat} {d : D}, (numFrom n ds)[i]? = some d → ∃ e, ds[i]? = some e ∧ d = .tuple [.int ((n + i : Nat) : Int), e]
  | [], _, _, _, h => by simp [numFrom] at h
  | e :: ds, n, 0, d, h => by
    simp [numFrom] at h
    exact ⟨e, rfl, by rw [← h]; rfl⟩
  | e :: ds, n, i + 1, d, h => by
    obtain ⟨e', h1, h2⟩ := num_get (ds := ds) (n := n + 1) (i := i) (d := d) (by simpa [numFrom] using h)
    refine ⟨e', by simpa using h1, ?_⟩
    rw [h2, show n + 1 + i = n + (i + 1) by omega]
theorem num_len : ∀ (ds : List D) (n : Nat), (numFrom n ds).length = ds.length
  | [], _ => rfl
  | _ :: ds, n => congrArg (· + 1) (num_len ds (n + 1))
theorem yld_enumL {a : Addr} {xs : List V} {ds : List D} (hs : SqL K B a xs) (r : Reps K F1 xs ds) : Yld K (Ite K a) B F1 (numFrom 0 ds) := fun i H F gB gF sub => by
  have hs' := gB.seq hs
  rw [num_len]
  refine ⟨fun hi => ?_, fun hi => ⟨xs, hs', by rw [r.length]; omega⟩, fun x H' d hd hy => ?_⟩
  · have hx : i < xs.length := by rw [r.length]; exact hi
    exact ⟨xs, xs[i], hs', by simp [hx]⟩
  · obtain ⟨T, y, rfl, hT, rfl, hx⟩ := hy
    obtain ⟨e, he, rfl⟩ := num_get hd
    obtain ⟨x', e', r'⟩ := r.get he
    have := hx xs hs'
    rw [e'] at this
    cases this
    refine ⟨_, Ext.laid sub _ hT, .tup upd_same (.cons ?_ (.cons (r'.mono (gF.trans (same_upd (sub.free hT)))) .nil))⟩
    rw [Nat.zero_add]; exact .int _
theorem zip_get : ∀ {xs ys : List D} {i : Nat} {d : D}, (zipL xs ys)[i]? = some d → ∃ x y, xs[i]? = some x ∧ ys[i]? = some y ∧ d = .tuple [x, y]
  | [], _, _, _, h => by simp [zipL] at h
  | _ :: _, [], _, _, h => by simp [zipL] at h
  | x :: xs, y :: ys, 0, d, h => by
    simp [zipL] at h
    exact ⟨x, y, rfl, rfl, h.symm⟩
  | x :: xs, y :: ys, i + 1, d, h => by
    obtain ⟨x', y', h1, h2, h3⟩ := zip_get (xs := xs) (ys := ys) (i := i) (d := d) (by simpa [zipL] using h)
    exact ⟨x', y', by simpa using h1, by simpa using h2, h3⟩
theorem zip_len : ∀ (xs ys : List D), (zipL xs ys).length = min xs.length ys.length
  | [], _ => by simp [zipL]
  | _ :: _, [] => by simp [zipL]
  | x :: xs, y :: ys => by
    show (zipL xs ys).length + 1 = _
    rw [zip_len xs ys, List.length_cons, List.length_cons]
    omega
theorem yld_zipL {a b : Addr} {xs ys : List V} {ds es : List D} (hs : SqL K B a xs) (hs2 : SqL K B b ys) (r : Reps K F1 xs ds) (r2 : Reps K F1 ys es) : Yld K (Itz K a b) B F1 (zipL ds es) := fun i H F gB gF sub => by
  have hs' := gB.seq hs
  have hs2' := gB.seq hs2
  rw [zip_len]
  have l1 := r.length
  have l2 := r2.length
  refine ⟨fun hi => ?_, fun hi => ⟨xs, ys, hs', hs2', by omega⟩, fun x H' d hd hy => ?_⟩
  · have hx : i < xs.length := by omega
    have hy : i < ys.length := by omega
    exact ⟨xs, ys, xs[i], ys[i], hs', hs2', by simp [hx], by simp [hy]⟩
  · obtain ⟨T, u, w, rfl, hT, rfl, hx, hy⟩ := hy
    obtain ⟨d1, d2, e1, e2, rfl⟩ := zip_get hd
    obtain ⟨u', q1, r1'⟩ := r.get e1
    obtain ⟨w', q2, r2'⟩ := r2.get e2
    have h1 := hx xs hs'
    have h2 := hy ys hs2'
    rw [q1] at h1
    rw [q2] at h2
    cases h1; cases h2
    exact ⟨_, Ext.laid sub _ hT, .tup upd_same (.cons (r1'.mono (gF.trans (same_upd (sub.free hT)))) (.cons (r2'.mono (gF.trans (same_upd (sub.free hT)))) .nil))⟩
theorem yld_zipT {a b : Addr} {xs ys : List V} {ds es : List D} (hs : B a = some (.tup xs)) (hs2 : B b = some (.tup ys)) (r : Reps K F1 xs ds) (r2 : Reps K F1 ys es) : Yld K (RZ.ItzT K a b) B F1 (zipL ds es) := fun i H F gB gF sub => by
  have hs' : SqT K H a xs := .of (gB _ _ hs)
  have hs2' : SqT K H b ys := .of (gB _ _ hs2)
  rw [zip_len]
  have l1 := r.length
  have l2 := r2.length
  refine ⟨fun hi => ?_, fun hi => ⟨xs, ys, hs', hs2', by omega⟩, fun x H' d hd hy => ?_⟩
  · have hx : i < xs.length := by omega
    have hy : i < ys.length := by omega
    exact ⟨xs, ys, xs[i], ys[i], hs', hs2', by simp [hx], by simp [hy]⟩
  · obtain ⟨T, u, w, rfl, hT, rfl, hx, hy⟩ := hy
    obtain ⟨d1, d2, e1, e2, rfl⟩ := zip_get hd
    obtain ⟨u', q1, r1'⟩ := r.get e1
    obtain ⟨w', q2, r2'⟩ := r2.get e2
    have h1 := hx xs hs'
    have h2 := hy ys hs2'
    rw [q1] at h1
    rw [q2] at h2
    cases h1; cases h2
    exact ⟨_, Ext.laid sub _ hT, .tup upd_same (.cons (r1'.mono (gF.trans (same_upd (sub.free hT)))) (.cons (r2'.mono (gF.trans (same_upd (sub.free hT)))) .nil))⟩
end
section
variable {X : Cx} {tg e a b : Expr} {f g : F1} {pos p : Pos}
/-- a value that is walked: a list, a tuple, a text, a dict's keys -/
theorem i_seq (h : PX X e f) : IX X tg e false (sSeq f) := piImp (piOr (piOr (pi_list h) (pi_tup h)) (piOr (pi_str h) (pi_keys h))) fun σ H R ⟨H0, F0, F, ρ, ds, S, hd, q⟩ => by
  unfold sSeq at hd
  split at hd
  · rename_i e
    cases hd
    refine .inl (.inl ⟨H0, F0, F, ρ, _, S, e, fun H1 F1 v e1 r1 => ?_⟩)
    cases r1 with
    | lst hs r => exact ⟨_, rfl, ⟨_, e1.sub.seq hs⟩, q H1 F1 _ e1 (yld_list hs r)⟩
  · rename_i e
    cases hd
    refine .inl (.inr ⟨H0, F0, F, ρ, _, S, e, fun H1 F1 v e1 r1 => ?_⟩)
    cases r1 with
    | tup hs r => exact ⟨_, rfl, ⟨_, .of (e1.sub _ _ hs)⟩, q H1 F1 _ e1 (yld_tup hs r)⟩
  · rename_i e
    cases hd
    refine .inr (.inl ⟨H0, F0, F, ρ, _, S, e, fun H1 F1 v e1 r1 => ?_⟩)
    obtain ⟨h1, ok⟩ := RepB.str (H := H1) (.inl r1)
    exact ⟨_, h1, q H1 F1 _ e1 (yld_str ok)⟩
  · rename_i e
    split at hd
    · rename_i nt
      cases hd
      refine .inr (.inr ⟨H0, F0, F, ρ, _, S, e, fun H1 F1 v e1 r1 => ?_⟩)
      cases r1 with
      | dK hs r => exact ⟨_, _, rfl, .inl ⟨_, e1.sub _ _ hs, q H1 F1 _ e1 (yld_keys hs r)⟩⟩
      | dT hs r => exact absurd (show false = true from nt) Bool.false_ne_true
    · cases hd
  · cases hd
/-- the same, the list may be one that a slot alone holds -/
def sSeqB (a : F1) : FA := fun ρ => match a ρ with
  | some (.list ds) => some ds
  | some (.tuple ds) => some ds
  | some (.str x) => some (x.cps.toList.map fun c => .str ⟨#[c]⟩)
  | _ => none
theorem i_seqB (h : PB X e f) : IX X tg e true (sSeqB f) := piImp (piOr (piOr (pi_list h) (pi_tup h)) (pi_str h)) fun σ H R ⟨H0, F0, F, ρ, ds, S, hd, q⟩ => by
  unfold sSeqB at hd
  split at hd
  · rename_i e
    cases hd
    refine .inl (.inl ⟨H0, F0, F, ρ, _, S, e, fun H1 F1 v e1 r1 => ?_⟩)
    obtain ⟨a, xs, rfl, hs, r⟩ := r1.list e1.sub
    exact ⟨_, rfl, ⟨_, hs⟩, q H1 F1 _ e1 (yld_list hs r)⟩
  · rename_i e
    cases hd
    refine .inl (.inr ⟨H0, F0, F, ρ, _, S, e, fun H1 F1 v e1 r1 => ?_⟩)
    obtain ⟨a, xs, rfl, hf, hs, r⟩ := r1.tuple e1.sub
    exact ⟨_, rfl, ⟨_, hs⟩, q H1 F1 _ e1 (yld_tup (e1.sub _ _ hf) r)⟩
  · rename_i e
    cases hd
    refine .inr ⟨H0, F0, F, ρ, _, S, e, fun H1 F1 v e1 r1 => ?_⟩
    obtain ⟨h1, ok⟩ := r1.str
    exact ⟨_, h1, q H1 F1 _ e1 (yld_str ok)⟩
  · cases hd
/-- a source that a comprehension walks -/
theorem IX.br {src : FA} (h : IX X tg e false src) : IX X tg e true src := piImp h fun σ H R ⟨H0, F0, F, ρ, ds, S, hd, q⟩ => ⟨H0, F0, F, ρ, ds, S, hd, fun H' F' J x y => q H' F' J x fun i H2 F2 gB gF sub => y i H2 F2 (gF.trans sub) gF sub⟩
theorem smallI_of {i : Int} (h : smallI i = true) : -(2 ^ 62) ≤ i ∧ i < 2 ^ 62 := by
  unfold smallI at h
  simp only [Bool.and_eq_true, decide_eq_true_eq] at h
  omega
theorem i_rng (hg : Gl X "range") (hm : X.mg "range" = none) (ha : PX X a f) (h1 : starEach [a] X.env = (false, eval a X.env) :: starEach [] X.env := by rfl) (hs : starEach [a] X.env = [(false, eval a X.env)] := by rfl) : IX X tg (.Call (.Name "range" p) [a] [] pos) false (sRng f) :=
  piImp (pi_range1 hg hm (pa_cons ha pa_nil h1) hs) fun σ H R ⟨H0, F0, F, ρ, ds, S, hd, q⟩ => by
  unfold sRng at hd
  split at hd
  · rename_i j e
    split at hd
    · rename_i hc
      cases hd
      refine ⟨H0, F0, F, ρ, _, S, e, fun H1 F1 v e1 r1 => ?_⟩
      cases r1
      obtain ⟨c1, c2⟩ := smallI_of hc
      exact ⟨j, rfl, c1, c2, q H1 F1 _ e1 yld_rng⟩
    · cases hd
  · cases hd
theorem i_rng2 (hg : Gl X "range") (hm : X.mg "range" = none) (ha : PX X a f) (hb : PX X b g) (h1 : starEach [a, b] X.env = (false, eval a X.env) :: starEach [b] X.env := by rfl) (h2 : starEach [b] X.env = (false, eval b X.env) :: starEach [] X.env := by rfl)
    (hs : starEach [a, b] X.env = [(false, eval a X.env), (false, eval b X.env)] := by rfl) (hs2 : starEach [b] X.env = [(false, eval b X.env)] := by rfl) : IX X tg (.Call (.Name "range" p) [a, b] [] pos) false (sRng2 f g) :=
  piImp (pi_range2 hg hm (pa_cons ha (pa_cons hb pa_nil h2) h1) hs hs2) fun σ H R ⟨H0, F0, F, ρ, ds, S, hd, q⟩ => by
  unfold sRng2 at hd
  split at hd
  · rename_i i j e e'
    split at hd
    · rename_i hc
      cases hd
      rw [Bool.and_eq_true] at hc
      refine ⟨H0, F0, F, ρ, _, S, e, fun H1 F1 v e1 r1 => ⟨H0, F0, F1, ρ, _, S.ext e1, e', fun H2 F2 w e2 r2 => ?_⟩⟩
      cases r1
      cases r2
      obtain ⟨c1, c2⟩ := smallI_of hc.1
      obtain ⟨c3, c4⟩ := smallI_of hc.2
      exact ⟨i, j, rfl, ⟨c1, c2, c3, c4⟩, q H2 F2 _ (e1.trans e2) yld_rng⟩
    · cases hd
  · cases hd
theorem i_items {elts : List Expr} {kk : Nat} {tpos apos cpos : Pos} (h : PX X e f) (hbase : attributeBase e "items" X.env (eval e X.env) = eval e X.env := by rfl) (hline : (apos.endLine == cpos.line) = true := by rfl) :
    IX X (.Tuple elts kk tpos) (.Call (.Attribute e "items" apos) [] [] cpos) false (sItems f) := piImp (pi_items h hbase hline) fun σ H R ⟨H0, F0, F, ρ, ds, S, hd, q⟩ => by
  unfold sItems at hd
  split at hd
  · rename_i e
    split at hd
    · rename_i nt
      cases hd
      refine ⟨H0, F0, F, ρ, _, S, e, fun H1 F1 v e1 r1 => ?_⟩
      cases r1 with
      | dK hs r => exact ⟨_, _, _, rfl, e1.sub _ _ hs, q H1 F1 _ e1 (yld_items hs r)⟩
      | dT hs r => exact absurd (show false = true from nt) Bool.false_ne_true
    · cases hd
  · cases hd
/-- enumerate(a list) -/
def sEnumL (a : F1) : FA := fun ρ => match a ρ with
  | some (.list ds) => some (numFrom 0 ds)
  | _ => none
theorem i_enumL {elts : List Expr} {kk : Nat} {tpos : Pos} (hg : Gl X "enumerate") (hm : X.mg "enumerate" = none) (ha : PX X a f) (h1 : starEach [a] X.env = (false, eval a X.env) :: starEach [] X.env := by rfl) (hs : starEach [a] X.env = [(false, eval a X.env)] := by rfl) :
    IX X (.Tuple elts kk tpos) (.Call (.Name "enumerate" p) [a] [] pos) false (sEnumL f) := piImp (pi_enum hg hm (pa_cons ha pa_nil h1) hs) fun σ H R ⟨H0, F0, F, ρ, ds, S, hd, q⟩ => by
  unfold sEnumL at hd
  split at hd
  · rename_i e
    cases hd
    refine ⟨H0, F0, F, ρ, _, S, e, fun H1 F1 v e1 r1 => ?_⟩
    cases r1 with
    | lst hs r => exact ⟨_, _, rfl, e1.sub.seq hs, q H1 F1 _ e1 (yld_enumL hs r)⟩
  · cases hd
end
end Pu
set_option maxRecDepth 100000
/-! Comprehensions; a def's body keeps its promise. -/
namespace Pu
open PySem PySem.Spec PyProof.Rows L2

section
variable {K : PySem.W.Frag} {H0 F0 H F : Hp} {σ : L2.St} {ρ : Rho}
/-- an object that no slot knows is laid or changed -/
theorem St.aside (S : St K H0 F0 H F σ ρ) {p : Addr} {o : HO} (fp : F p = none) (h0 : H0 p = none) (no : Apart σ ρ p) : St K H0 F0 (upd H p o) F σ ρ := by
  refine ⟨fun b u q => ?_, S.f, fun b u q => ?_, S.new, S.len, fun j s x h1 h2 => ?_, S.dj⟩
  · rw [upd_ne (ne_of_none q h0)]; exact S.h _ _ q
  · rw [upd_ne (ne_of_none q fp)]; exact S.sub _ _ q
  · have q := S.sl j s x h1 h2
    cases s with
    | no => trivial
    | val d => exact q
    | bor d => exact q
    | own d =>
      obtain ⟨a, u, e1, f1, h1', hq, r'⟩ := q
      refine ⟨a, u, e1, f1, h1', ?_, r'⟩
      rw [upd_ne]
      · exact hq
      · intro z
        subst z
        exact no j d h1 (by rw [h2, e1])
end

section
variable {X : Cx} {elt tg iter : Expr} {ifs : List Expr} {scope : Scope} {own : List (Str × Nat)} {pos : Pos} {g : TG} {tf : TgF} {src : FA} {t : FB} {f : F1}
abbrev PIf (X : Cx) (ifs : List Expr) (t : FB) : Prop := PTs X ifs (tTs X.K t)
theorem if_nil : PIf X [] tYes := ⟨fun pins s σ H Q I ⟨H0, F0, F, ρ, b, S, hd, q⟩ => pts_nil.run pins s σ H Q I (by cases hd; exact q H F (Ext.refl S.sub))⟩
theorem if_one {c : Expr} (h : PTs' X c t) : PIf X [c] t := pts_one h
theorem compL_step {e : F1} {ρ : Rho} {d : D} {ds : List D} {r : List D} (h : compL tf t e ρ (d :: ds) = some r) :
    ∃ ρ1 b, tf d ρ = some ρ1 ∧ t ρ1 = some b ∧ ((b = true ∧ ∃ y r', e ρ1 = some y ∧ compL tf t e ρ ds = some r' ∧ r = y :: r') ∨ (b = false ∧ compL tf t e ρ ds = some r)) := by
  obtain ⟨ρ1, h1, h2⟩ := Option.bind_eq_some_iff.mp h
  obtain ⟨b, h3, h4⟩ := Option.bind_eq_some_iff.mp h2
  refine ⟨ρ1, b, h1, h3, ?_⟩
  cases b with
  | true =>
    rw [if_pos rfl] at h4
    obtain ⟨y, h5, h6⟩ := Option.bind_eq_some_iff.mp h4
    obtain ⟨r', h7, h8⟩ := Option.bind_eq_some_iff.mp h6
    exact .inl ⟨rfl, y, r', h5, h7, (Option.some.inj h8).symm⟩
  | false => exact .inr ⟨rfl, by simpa using h4⟩
/-- what a comprehension's state says: acc made so far, rest still to come -/
structure CSt (K : PySem.W.Frag) (H0 F0 H1 F1 : Hp) (σ : L2.St) (ρ : Rho) (Dd : Addr) (full rest : List D) (H F : Hp) (acc : List V) (accD : List D) : Prop where
  st : St K H0 F0 H F σ ρ
  h : Same H1 H
  f : Same F1 F
  fd : F Dd = none
  hd : H Dd = some (.lst acc)
  rep : Reps K F acc accD
  eq : full = accD ++ rest
  nw : ∀ a o, F a = some o → F1 a = some o ∨ H1 a = none
theorem CSt.ext {K : PySem.W.Frag} {H0 F0 H1 F1 H F H' F' : Hp} {σ : L2.St} {ρ : Rho} {Dd : Addr} {full rest : List D} {acc : List V} {accD : List D} (C : CSt K H0 F0 H1 F1 σ ρ Dd full rest H F acc accD) (e : Ext H F H' F') : CSt K H0 F0 H1 F1 σ ρ Dd full rest H' F' acc accD := by
  refine ⟨C.st.ext e, C.h.trans e.h, C.f.trans e.f, ?_, e.h _ _ C.hd, C.rep.mono e.f, C.eq, fun a o q => ?_⟩
  case refine_2 =>
    rcases e.new a o q with q | q
    · exact C.nw a o q
    · exact .inr (C.h.free q)
  cases z : F' Dd with
  | none => rfl
  | some u =>
    rcases e.new Dd u z with q | q
    · rw [C.fd] at q; cases q
    · rw [C.hd] at q; cases q
theorem CSt.push {K : PySem.W.Frag} {H0 F0 H1 F1 H F : Hp} {σ : L2.St} {ρ : Rho} {Dd : Addr} {full rest : List D} {acc : List V} {accD : List D} {y : V} {d : D} (C : CSt K H0 F0 H1 F1 σ ρ Dd full (d :: rest) H F acc accD) (h1 : H1 Dd = none) (h0 : H0 Dd = none) (no : Apart σ ρ Dd) (r : Rep K F y d) :
    CSt K H0 F0 H1 F1 σ ρ Dd full rest (upd H Dd (.lst (acc ++ [y]))) F (acc ++ [y]) (accD ++ [d]) := by
  refine ⟨C.st.aside C.fd h0 no, fun b u q => ?_, C.f, C.fd, upd_same, C.rep.snoc r, ?_, C.nw⟩
  · rw [upd_ne (ne_of_none q h1)]; exact C.h _ _ q
  · rw [C.eq, List.append_assoc]; rfl
theorem wipe_comm (σ : L2.St) (i : Nat) : ∀ vs : List Nat, L2.wipe (σ.set i none) vs = (L2.wipe σ vs).set i none
  | [] => rfl
  | v :: vs => by
    unfold L2.wipe
    rw [wipe_comm σ i vs]
    by_cases e : i = v
    · subst e; rfl
    · exact List.set_comm _ _ e
theorem wipe_twice (σ : L2.St) : ∀ vs : List Nat, L2.wipe (L2.wipe σ vs) vs = L2.wipe σ vs
  | [] => rfl
  | v :: vs => by
    show (L2.wipe ((L2.wipe σ vs).set v none) vs).set v none = (L2.wipe σ vs).set v none
    rw [wipe_comm, wipe_twice σ vs, List.set_set]
theorem lc_go {K : PySem.W.Frag} {vs : List Nat} (htg : TgOk K vs g tf) : ∀ σ H Q, tF K (fLc vs src tf t f) σ H Q → tLc (tI K true src) g (tTs K t) (tX K f) vs σ H Q := fun σ H Q ⟨H0, F0, F, ρ, d, S, hd, q⟩ => by
  obtain ⟨ds, h1, h2⟩ := Option.bind_eq_some_iff.mp hd
  obtain ⟨r, h3, h4⟩ := Option.bind_eq_some_iff.mp h2
  split at h4
  case isFalse => cases h4
  rename_i hz
  cases h4
  have hz : r.length ≤ sizeLine := of_decide_eq_true hz
  refine ⟨H0, F0, F, ρ, ds, S, h1, fun H1 F1 J e1 y Dd hD => ?_⟩
  have y : Yld K J H1 F1 ds := y
  have S1 := S.ext e1
  have h0 : H0 Dd = none := S.h.free (e1.h.free hD)
  have no : Apart σ ρ Dd := S1.noOwn hD
  have C0 : CSt K H0 F0 H1 F1 σ ρ Dd r r (upd H1 Dd (.lst [])) F1 [] [] := ⟨S1.aside (e1.sub.free hD) h0 no, same_upd hD, Same.refl _, e1.sub.free hD, upd_same, .nil, rfl, fun _ _ z => .inl z⟩
  refine ⟨fun i m H => m = ds.length - i ∧ i ≤ ds.length ∧ ∃ rest F acc accD, CSt K H0 F0 H1 F1 σ ρ Dd r rest H F acc accD ∧ compL tf t f (wipeR ρ vs) (ds.drop i) = some rest, ⟨ds.length, by simp, Nat.zero_le _, r, F1, [], [], C0, by simpa using h3⟩, ?_⟩
  rintro i m H ⟨rfl, hi', rest, F2, acc, accD, C, hr⟩
  obtain ⟨y1, y2, y3⟩ := y i H F2 C.h C.f C.st.sub
  by_cases hlt : i < ds.length
  · have hdr : ds.drop i = ds[i] :: ds.drop (i + 1) := List.drop_eq_getElem_cons hlt
    rw [hdr] at hr
    obtain ⟨ρ1, b, g1, g2, g3⟩ := compL_step hr
    refine .inr ⟨y1 hlt, fun H => ∃ rest F acc accD, CSt K H0 F0 H1 F1 σ ρ Dd r rest H F acc accD ∧ compL tf t f (wipeR ρ vs) (ds.drop (i + 1)) = some rest, fun H' w => ⟨_, by omega, rfl, hlt, w⟩, fun x H' yy => ?_⟩
    obtain ⟨F3, e3, r3⟩ := y3 x H' ds[i] (by simp [hlt]) yy
    have C3 := C.ext e3
    refine htg.run H0 F0 F3 H' _ _ ρ1 x _ _ (C3.st.wipe _) r3 g1 fun σ2 S2 hw _ => ⟨by rw [hw]; exact wipe_twice _ _, ?_⟩
    refine ⟨H0, F0, F3, ρ1, b, S2, g2, fun H4 F4 e4 => ?_⟩
    rcases g3 with ⟨rfl, z, rest', g4, g5, rfl⟩ | ⟨rfl, g5⟩
    · rw [if_pos rfl]
      refine ⟨H0, F0, F4, ρ1, z, S2.ext e4, g4, fun H5 F5 v e5 r5 => ?_⟩
      have C5 := (C3.ext e4).ext e5
      refine ⟨acc, C5.hd, ?_, rest', F5, _, _, C5.push hD h0 no r5, g5⟩
      have hl := C5.rep.length
      have he := congrArg List.length C5.eq
      rw [List.length_append, List.length_cons] at he
      omega
    · rw [if_neg Bool.false_ne_true]
      exact ⟨rest, F4, acc, accD, C3.ext e4, g5⟩
  · have e : ds.drop i = [] := List.drop_eq_nil_of_le (by omega)
    rw [e] at hr
    cases hr
    refine .inl ⟨y2 (by omega), q H F2 Dd (.lst acc) ⟨e1.h.trans C.h, e1.f.trans C.f, C.st.sub, fun a o h => ?_⟩ C.fd (e1.h.free hD) C.hd ?_⟩
    · rcases C.nw a o h with h | h
      · exact e1.new a o h
      · exact .inr (e1.h.free h)
    · have : r = accD := by rw [C.eq, List.append_nil]
      rw [this]; exact C.rep
theorem f_lc (hc : X.calm = true) (hN : X.N.Nodup) (hi : IX X tg iter true src) (ok : BlkOk X.N X.env.scope scope own)
    (hg : ∀ (s : Shared) (H : Hp) (C : Addr) (cl : List (Str × Addr)) (fp : List Addr), PG (X.blk s H scope (compEnvC scope cl C X.env) fp) tg g) (htg : TgOk X.K (own.map (·.2)) g tf)
    (ht : ∀ (s : Shared) (H : Hp) (C : Addr) (cl : List (Str × Addr)) (fp : List Addr), PIf (X.blk s H scope (compEnvC scope cl C X.env) fp) ifs t)
    (he : ∀ (s : Shared) (H : Hp) (C : Addr) (cl : List (Str × Addr)) (fp : List Addr), PX (X.blk s H scope (compEnvC scope cl C X.env) fp) elt f) (hs : ∀ x, foldedSetIterable iter X.env x = pure x := by intro _; rfl) :
    PF X (.ListComp elt [⟨tg, iter, ifs, 0⟩] scope pos) (fLc (own.map (·.2)) src tf t f) := peImp (pe_lc (tt := tTs X.K t) (te := tX X.K f) hc hN hi ok hg ht he hs) (lc_go htg)
/-- a new list of a slot's own may stand as a value -/
theorem toF {K : PySem.W.Frag} {f : F1} (hl : ∀ ρ d, f ρ = some d → ∃ ds, d = .list ds) : ∀ σ H Q, tX K f σ H Q → tF K f σ H Q := fun σ H Q ⟨H0, F0, F, ρ, d, S, hd, q⟩ => by
  obtain ⟨ds, rfl⟩ := hl ρ d hd
  refine ⟨H0, F0, F, ρ, _, S, hd, fun H' F' p o e fp hp h1 r => ?_⟩
  unfold RepO at r
  split at r
  · rename_i xs ds' e'
    cases e'
    obtain ⟨g1, g2⟩ := Ext.frz e.sub h1 fp
    refine q H' (upd F' p (.lst xs)) _ ⟨e.h, e.f.trans g1, g2, fun a u z => ?_⟩ (.lst (.inl (.inl upd_same)) (r.mono g1))
    by_cases ea : a = p
    · subst ea; exact .inr hp
    · rw [upd_ne ea] at z; exact e.new _ _ z
  · rename_i z; cases z
  · rename_i z; cases z
  · exact r.elim
theorem fLc_list {vs : List Nat} : ∀ ρ d, fLc vs src tf t f ρ = some d → ∃ ds, d = .list ds := fun ρ d h => by
  obtain ⟨ds, _, h2⟩ := Option.bind_eq_some_iff.mp h
  obtain ⟨r, _, h4⟩ := Option.bind_eq_some_iff.mp h2
  split at h4
  · cases h4; exact ⟨_, rfl⟩
  · cases h4
/-- y = [.. for ..], y a plain local name -/
theorem s_ownLc {fr : Bool} {i : Nat} {y : Str} {py spos : Pos} (hc : X.calm = true) (hN : X.N.Nodup) (hy : X.N[i]? = some y) (hyl : X.env.scope.names.lookup y = some .local)
    (hsw : swapsWith (.ListComp elt [⟨tg, iter, ifs, 0⟩] scope pos) (some (.Name y py)) spos.line X.env = pure true) (hi : IX X tg iter true src) (ok : BlkOk X.N X.env.scope scope own)
    (hg : ∀ (s : Shared) (H : Hp) (C : Addr) (cl : List (Str × Addr)) (fp : List Addr), PG (X.blk s H scope (compEnvC scope cl C X.env) fp) tg g) (htg : TgOk X.K (own.map (·.2)) g tf)
    (ht : ∀ (s : Shared) (H : Hp) (C : Addr) (cl : List (Str × Addr)) (fp : List Addr), PIf (X.blk s H scope (compEnvC scope cl C X.env) fp) ifs t)
    (he : ∀ (s : Shared) (H : Hp) (C : Addr) (cl : List (Str × Addr)) (fp : List Addr), PX (X.blk s H scope (compEnvC scope cl C X.env) fp) elt f) (hs : ∀ x, foldedSetIterable iter X.env x = pure x := by intro _; rfl) :
    SX X fr (.Assign [.Name y py] (.ListComp elt [⟨tg, iter, ifs, 0⟩] scope pos) spos) (gOwn i (fLc (own.map (·.2)) src tf t f)) := psImp (ps_setLc (tt := tTs X.K t) (te := tX X.K f) hc hN hy hyl hsw hi ok hg ht he hs) fun E σ H ⟨H0, F0, F, ρ, o, S, hd, q⟩ => by
  obtain ⟨d, h1, rfl⟩ := Option.map_eq_some_iff.mp hd
  exact lc_go htg σ H _ ⟨H0, F0, F, ρ, d, S, h1, fun H1 F1 p o e1 f1 hp h1 r1 => q _ H1 F1 ((S.ext e1).putOwn i f1 (S.h.free hp) h1 r1 (S.noOwn hp)) e1.f⟩
theorem s_setLc {fr : Bool} {i : Nat} {y : Str} {py spos : Pos} (hc : X.calm = true) (hN : X.N.Nodup) (hy : X.N[i]? = some y) (hyl : X.env.scope.names.lookup y = some .local)
    (hsw : swapsWith (.ListComp elt [⟨tg, iter, ifs, 0⟩] scope pos) (some (.Name y py)) spos.line X.env = pure true) (hi : IX X tg iter true src) (ok : BlkOk X.N X.env.scope scope own)
    (hg : ∀ (s : Shared) (H : Hp) (C : Addr) (cl : List (Str × Addr)) (fp : List Addr), PG (X.blk s H scope (compEnvC scope cl C X.env) fp) tg g) (htg : TgOk X.K (own.map (·.2)) g tf)
    (ht : ∀ (s : Shared) (H : Hp) (C : Addr) (cl : List (Str × Addr)) (fp : List Addr), PIf (X.blk s H scope (compEnvC scope cl C X.env) fp) ifs t)
    (he : ∀ (s : Shared) (H : Hp) (C : Addr) (cl : List (Str × Addr)) (fp : List Addr), PX (X.blk s H scope (compEnvC scope cl C X.env) fp) elt f) (hs : ∀ x, foldedSetIterable iter X.env x = pure x := by intro _; rfl) :
    SX X fr (.Assign [.Name y py] (.ListComp elt [⟨tg, iter, ifs, 0⟩] scope pos) spos) (gSet i (fLc (own.map (·.2)) src tf t f)) := psImp (ps_setLc (tt := tTs X.K t) (te := tX X.K f) hc hN hy hyl hsw hi ok hg ht he hs) fun E σ H ⟨H0, F0, F, ρ, o, S, hd, q⟩ => by
  obtain ⟨d, h1, rfl⟩ := Option.map_eq_some_iff.mp hd
  exact lc_go htg σ H _ (toF fLc_list σ H _ ⟨H0, F0, F, ρ, d, S, h1, fun H1 F1 v e1 r1 => q _ H1 F1 ((S.ext e1).set i r1) e1.f⟩)
theorem x_lc (hc : X.calm = true) (hN : X.N.Nodup) (hi : IX X tg iter true src) (ok : BlkOk X.N X.env.scope scope own)
    (hg : ∀ (s : Shared) (H : Hp) (C : Addr) (cl : List (Str × Addr)) (fp : List Addr), PG (X.blk s H scope (compEnvC scope cl C X.env) fp) tg g) (htg : TgOk X.K (own.map (·.2)) g tf)
    (ht : ∀ (s : Shared) (H : Hp) (C : Addr) (cl : List (Str × Addr)) (fp : List Addr), PIf (X.blk s H scope (compEnvC scope cl C X.env) fp) ifs t)
    (he : ∀ (s : Shared) (H : Hp) (C : Addr) (cl : List (Str × Addr)) (fp : List Addr), PX (X.blk s H scope (compEnvC scope cl C X.env) fp) elt f) (hs : ∀ x, foldedSetIterable iter X.env x = pure x := by intro _; rfl) :
    PX X (.ListComp elt [⟨tg, iter, ifs, 0⟩] scope pos) (fLc (own.map (·.2)) src tf t f) := (f_lc hc hN hi ok hg htg ht he hs).toX
end

/-! ### a def's body -/
theorem slots_len : ∀ {ms : List Bool} {ds : List D}, ms.length = ds.length → (slots ms ds).length = ds.length
  | [], [], _ => rfl
  | true :: ms, d :: ds, h => congrArg (· + 1) (slots_len (ms := ms) (ds := ds) (by simpa using h))
  | false :: ms, d :: ds, h => congrArg (· + 1) (slots_len (ms := ms) (ds := ds) (by simpa using h))
theorem slots_ok {K : PySem.W.Frag} {H F : Hp} : ∀ {ms : List Bool} {vs : List V} {ds : List D}, RepsM K H F ms vs ds → ∀ (i : Nat) (s : Slot) (x : V), (slots ms ds)[i]? = some s → vs[i]? = some x → SlotOk K H H F s (some x)
  | _, _, _, .nil, i, s, x, h, _ => by simp [slots] at h
  | _, _, _, .val r rr, 0, s, x, h, h' => by
    simp [slots] at h h'
    subst h h'
    exact ⟨_, rfl, r⟩
  | _, _, _, .bor r rr, 0, s, x, h, h' => by
    simp [slots] at h h'
    subst h h'
    exact ⟨_, rfl, r⟩
  | _, _, _, .val r rr, i + 1, s, x, h, h' => slots_ok rr i s x (by simpa [slots] using h) (by simpa using h')
  | _, _, _, .bor r rr, i + 1, s, x, h, h' => slots_ok rr i s x (by simpa [slots] using h) (by simpa using h')
theorem slots_own {ms : List Bool} : ∀ {ds : List D} {i : Nat} {d : D}, (slots ms ds)[i]? ≠ some (.own d) := by
  induction ms with
  | nil => intro ds i d h; simp [slots] at h
  | cons m ms ih =>
    intro ds i d h
    cases ds with
    | nil => cases m <;> simp [slots] at h
    | cons e ds =>
      cases i with
      | zero => cases m <;> simp [slots] at h
      | succ i =>
        refine ih (ds := ds) (i := i) (d := d) ?_
        cases m <;> simpa [slots] using h
theorem RepsM.lenD {K : PySem.W.Frag} {H F : Hp} : ∀ {ms : List Bool} {vs : List V} {ds : List D}, RepsM K H F ms vs ds → ms.length = ds.length
  | _, _, _, .nil => rfl
  | _, _, _, .val _ r => congrArg (· + 1) (RepsM.lenD r)
  | _, _, _, .bor _ r => congrArg (· + 1) (RepsM.lenD r)
theorem st_start {K : PySem.W.Frag} {H F : Hp} {N : List Str} {ms : List Bool} {vs : List V} {ds : List D} (s : Same F H) (r : RepsM K H F ms vs ds) : St K H F H F (L2.start N vs) (pad N.length (slots ms ds)) := by
  have l1 := r.length
  have l2 := r.lenD
  have l3 := slots_len l2
  have own : ∀ (i : Nat) (d : D), (pad N.length (slots ms ds))[i]? ≠ some (.own d) := fun i d h => by
    unfold pad at h
    by_cases hi : i < (slots ms ds).length
    · rw [List.getElem?_append_left hi] at h
      exact slots_own h
    · rw [List.getElem?_append_right (by omega), List.getElem?_replicate] at h
      split at h <;> cases h
  refine ⟨Same.refl _, Same.refl _, s, fun _ _ h => .inl h, ?_, fun i sl x h1 h2 => ?_, fun i j di dj p _ h => absurd h (own i di)⟩
  · unfold pad L2.start
    simp
    omega
  · unfold pad at h1
    unfold L2.start at h2
    by_cases hi : i < (slots ms ds).length
    · rw [List.getElem?_append_left hi] at h1
      rw [List.getElem?_append_left (by rw [List.length_map]; omega), List.getElem?_map] at h2
      obtain ⟨v, h3, h4⟩ := Option.map_eq_some_iff.mp h2
      subst h4
      exact slots_ok r i sl v h1 h3
    · rw [List.getElem?_append_right (by omega), List.getElem?_replicate] at h1
      split at h1
      · cases h1; trivial
      · cases h1
/-- a def's promise, where it hands back something new (fr) -/
def spQ (K : PySem.W.Frag) (fr : Bool) (ms : List Bool) (m : Fn) : Sp := fun vs H Q _ => ∃ (F : Hp) (ds : List D) (d : D), Same F H ∧ RepsM K H F ms vs ds ∧ m ds = some d ∧ ∀ H' F' v, Ext H F H' F' → RtP K fr H H' F' v d → Q v H'
/-- the body's result; a def that comes to its end hands back None (never where something new is promised) -/
def endQ (fr : Bool) : Out → Option D
  | .rt d => some d
  | .nx _ => if fr then none else some .none
def runQ (fr : Bool) (n : Nat) (ms : List Bool) (g : G) : Fn := fun ds => (g (pad n (slots ms ds))).bind (endQ fr)
theorem fn_ok {P : Program} {w : World} {K : PySem.W.Frag} {mg : Str → Option Value} {base : Heap} {x qual : Str} {st : Stmt} {f : Addr} {fd : FuncData} {N ps : List Str} {k : Nat} {fr : Bool} {ms : List Bool} {m : Fn} {g : G} (Fu : L2.Fun K x qual st f fd) (S : FnScope N ps (defScope st)) (hl : ms.length = ps.length)
    (hm : m = runQ fr N.length ms g)
    (hb : ∀ (cdv : Value) (A : Around) (outer : List Env) (s : Shared) (H : Hp) (E : XK), Room k (A.deeper (envOfC qual (defScope st) s.heap.objs.size f cdv)) → SXs (cxOf CX0 P w K mg base N qual (defScope st) f cdv A outer s H E).nox fr (defBody st) g) :
    FnOk P w K mg base CX0 (k + 1) f fd ps (spQ K fr ms m) := by
  subst hm
  refine Fu.ok S (fun vs H Q E h => ?_) (fun cdv A outer s H vs Q E hr h => ⟨_, hb cdv A outer s H E hr, ?_⟩)
  · obtain ⟨F, ds, d, s, r, _⟩ := h
    rw [r.length, hl]
  · obtain ⟨F, ds, d, s, r, hd, q⟩ := h
    obtain ⟨o, h1, h2⟩ := Option.bind_eq_some_iff.mp hd
    refine ⟨H, F, F, _, o, st_start s r, h1, ?_⟩
    cases o with
    | rt d' =>
      cases h2
      exact fun H' F' v e r => q H' F' v e r
    | nx ρ' =>
      cases fr with
      | true => cases h2
      | false =>
        cases h2
        exact fun σ' H' F' S' z => q H' F' .non S'.toExt .non
/-- the promise at less: nothing is answered -/
theorem fn_none {P : Program} {w : World} {K : PySem.W.Frag} {mg : Str → Option Value} {base : Heap} {f : Addr} {fd : FuncData} {ps : List Str} {k : Nat} {fr : Bool} {ms : List Bool} : FnOk P w K mg base CX0 k f fd ps (spQ K fr ms fun _ => none) :=
  ⟨fun vs H Q E ⟨_, _, _, _, _, h, _⟩ => (by cases h), fun A outer s H args us vs Q E _ _ _ _ ⟨_, _, _, _, _, h, _⟩ => (by cases h)⟩
section
variable {X : Cx} {k : Nat} {f : Addr} {fd : FuncData} {ps : List Str} {ms : List Bool} {m : Fn} {x : Str} {p pos : Pos} {e : Expr} {es : List Expr} {fs : List F1}
theorem c_call (G : FnOk X.prog X.w X.K X.mg X.base CX0 k f fd ps (spQ X.K false ms m)) (hr : Room k X.A) (hg : Gl X x) (hm : X.mg x = some (.ref f)) (hk : PySem.W.keepIn X.K (.ref f) = true) (hb : Binds X.K fd ps []) (ha : PAr X (e :: es) ms (fArgs fs))
    (hdb : (x == ("__debug__" : Str)) = false := by decide) (h1 : starEach (e :: es) X.env = (false, eval e X.env) :: starEach es X.env := by rfl) (hpl : (backTo pos (starEach es X.env)).any (·.1) = false := by rfl) :
    PX X (.Call (.Name x p) (e :: es) [] pos) (fCall m fs) := peImp (pe_call G hr hg hm hk hb .nil pass0 ha hdb h1 hpl) fun σ H Q ⟨H0, F0, F, ρ, d, S, hd, q⟩ => by
  obtain ⟨ds, hds, hm⟩ := Option.bind_eq_some_iff.mp hd
  refine ⟨H0, F0, F, ρ, ds, S, hds, fun H1 F1 vs e1 r1 => ?_⟩
  show spQ X.K false ms m (vs ++ []) H1 Q E0
  rw [List.append_nil]
  exact ⟨F1, ds, d, e1.sub, r1, hm, fun H' F' v e r => q H' F' v (e1.trans e) r⟩
/-- a call of a def that hands back something new -/
theorem c_callF (G : FnOk X.prog X.w X.K X.mg X.base CX0 k f fd ps (spQ X.K true ms m)) (hr : Room k X.A) (hg : Gl X x) (hm : X.mg x = some (.ref f)) (hk : PySem.W.keepIn X.K (.ref f) = true) (hb : Binds X.K fd ps []) (ha : PAr X (e :: es) ms (fArgs fs))
    (hdb : (x == ("__debug__" : Str)) = false := by decide) (h1 : starEach (e :: es) X.env = (false, eval e X.env) :: starEach es X.env := by rfl) (hpl : (backTo pos (starEach es X.env)).any (·.1) = false := by rfl) :
    PF X (.Call (.Name x p) (e :: es) [] pos) (fCall m fs) := peImp (pe_call G hr hg hm hk hb .nil pass0 ha hdb h1 hpl) fun σ H Q ⟨H0, F0, F, ρ, d, S, hd, q⟩ => by
  obtain ⟨ds, hds, hm⟩ := Option.bind_eq_some_iff.mp hd
  refine ⟨H0, F0, F, ρ, ds, S, hds, fun H1 F1 vs e1 r1 => ?_⟩
  show spQ X.K true ms m (vs ++ []) H1 Q E0
  rw [List.append_nil]
  refine ⟨F1, ds, d, e1.sub, r1, hm, fun H' F' v e r => ?_⟩
  obtain ⟨p, o, rfl, h1, h2, h3, h4⟩ := r
  exact q H' F' p o (e1.trans e) h1 (e1.h.free h2) h3 h4
end
end Pu
set_option maxRecDepth 100000
/-! len(set(..)). -/
namespace Pu
open PySem PySem.Spec PyProof.Rows L2

theorem metD_succ {ds : List D} {i : Nat} {d : D} (h : ds[i]? = some d) : metD (ds.take (i + 1)) = if inL d (metD (ds.take i)) then metD (ds.take i) else metD (ds.take i) ++ [d] := by
  have hl : i < ds.length := (List.getElem?_eq_some_iff.mp h).1
  have e : ds.take (i + 1) = ds.take i ++ [d] := by
    rw [List.take_add_one, h]; rfl
  unfold metD
  rw [e, List.foldl_append]; rfl
theorem metD_le : ∀ (ds : List D) (i : Nat), (metD (ds.take i)).length ≤ i
  | ds, 0 => by simp [metD]
  | ds, i + 1 => by
    cases h : ds[i]? with
    | none =>
      have hl : ds.length ≤ i := List.getElem?_eq_none_iff.mp h
      rw [List.take_of_length_le (by omega)]
      have := metD_le ds i
      rw [List.take_of_length_le hl] at this
      omega
    | some d =>
      have := metD_le ds i
      rw [metD_succ h]
      split
      · omega
      · rw [List.length_append]; simp; omega
section
variable {prog : Program} {w : World} {A : Around} {R : Result → Shared → Prop} {I : Addr} {fp wr : List Addr} {GG : Array GenState → Array GenState → Prop} {n : Nat} {P : Nat → Value → Prop} {Sd : Nat → Shared → Prop}
def SetHas (prog : Program) (w : World) (h : Heap) (S : Addr) (seen : List D) : Prop := h.SetOf (mixKind prog w) S (fun k => inL (keyD k) seen) seen.length
theorem SetHas.moved {h h' : Heap} {S : Addr} {seen : List D} (x : SetHas prog w h S seen) (k : ∀ o, h.get? S = some o → h'.get? S = some o) : SetHas prog w h' S seen := by
  obtain ⟨o, es, ep, t, ho, r⟩ := x
  exact ⟨o, es, ep, t, k o ho, r⟩
theorem setCongr {h : Heap} {a : Addr} {S S' : L2.Key → Bool} {n n' : Nat} (x : h.SetOf (mixKind prog w) a S n) (e : ∀ k, S k = S' k) (en : n = n') : h.SetOf (mixKind prog w) a S' n' := by
  obtain rfl : S = S' := funext e
  subst en
  exact x
theorem SetHas.add {h' : Heap} {S : Addr} {seen : List D} {k : L2.Key} (x : h'.SetOf (mixKind prog w) S (fun k' => inL (keyD k') seen || decide (k' = k)) (if inL (keyD k) seen then seen.length else seen.length + 1)) : SetHas prog w h' S (if inL (keyD k) seen then seen else seen ++ [keyD k]) := by
  unfold SetHas
  cases e : inL (keyD k) seen with
  | true =>
    rw [e] at x
    refine setCongr x (fun k' => ?_) rfl
    by_cases ek : k' = k
    · subst ek; simp [e]
    · simp [ek]
  | false =>
    rw [e] at x
    refine setCongr x (fun k' => ?_) (by simp)
    show _ = (seen ++ [keyD k]).any _
    rw [List.any_append]
    show (inL (keyD k') seen || decide (k' = k)) = (inL (keyD k') seen || ([keyD k].any fun z => PyData.eqv z (keyD k')))
    congr 1
    simp only [List.any_cons, List.any_nil, Bool.or_false]
    rw [eqv_keyD]
    by_cases ek : k' = k
    · subst ek; simp
    · simp [ek, Ne.symm ek]
theorem setLoop (W : WalksS prog w A.in1 I fp wr GG n P Sd) (S : Addr) (out : S ∉ fp) (ds : List D) (small : n < 4000) (val : ∀ i v, P i v → ∃ k, ds[i]? = some (keyD k) ∧ RelV (kV k) v) :
    ∀ (m i : Nat) (s : Shared), n - i = m → i ≤ n → Sd i s → SetHas prog w s.heap S (metD (ds.take i)) →
      (∀ s', Moved (S :: wr) GG s s' → SetHas prog w s'.heap S (metD (ds.take n)) → R (.ok (.ret .none)) s') → codeAny (model prog w) A (.builtin "set.update.loop" ⟨[.ref S, .ref I], []⟩) R s := by
  have notW : S ∉ wr := fun h => out (W.sub _ h)
  have more : ∀ b ∈ wr, b ∈ S :: wr := fun b hb => List.mem_cons_of_mem _ hb
  intro m
  induction m with
  | zero =>
    intro i s hm hi st has fin
    obtain rfl : i = n := by omega
    refine codeAny_builtin PyProof.Rows.F.entry_set_update_loop ?_
    rw [Around.under_plainId PyProof.Rows.F.plain_set_update_loop _]
    show wpAny _ A.in1 (pyNext (.ref I) >>= _) _ _ s
    refine wpAny_bind (W.done s _ _ st fun s' mv => ?_)
    exact wpAny_pure (fin s' (mv.mono more) (has.moved fun o ho => mv.heap S _ notW ho))
  | succ m ih =>
    intro i s hm hi st has fin
    have lt : i < n := by omega
    refine codeAny_builtin PyProof.Rows.F.entry_set_update_loop ?_
    rw [Around.under_plainId PyProof.Rows.F.plain_set_update_loop _]
    show wpAny _ A.in1 (pyNext (.ref I) >>= _) _ _ s
    refine wpAny_bind (W.item i s _ _ lt st fun v s' hP st' mv => ?_)
    obtain ⟨k, hk, rv⟩ := val i v hP
    have is : (mixKind prog w).is k v = true := kV_is rv
    have scan : v.scannable = true := by
      cases k with
      | inl i => obtain ⟨t, rfl⟩ := rv; rfl
      | inr x => obtain ⟨t, rfl⟩ := rv; rfl
    have has' : SetHas prog w s'.heap S (metD (ds.take i)) := has.moved fun o ho => mv.heap S _ notW ho
    have le := metD_le ds i
    have go : ∀ (Q : Bool → Shared → Prop) (E : Value → Shared → Prop), (∀ b s2, (∃ tk, s2 = { s' with heap := s2.heap, toks := tk } ∧ s'.toks ≤ tk) → Heap.SameBut S s'.heap s2.heap → SetHas prog w s2.heap S (metD (ds.take (i + 1))) → Q b s2) → wpAny (model prog w) A.in1 (setAdd S v) Q E s' := fun Q E hq => by
      unfold setAdd
      refine wpAny_holding (wpAny_bind ((mixKind prog w).pyHash (k := k) is ?_))
      refine wpAny_setAddHashed_of (knd := mixKind prog w) (s := { s' with toks := s'.toks + 1 }) is scan has' (by unfold scanBound; omega) fun h' sb x => ?_
      refine hq _ _ ⟨_, rfl, Nat.le_succ _⟩ sb ?_
      rw [metD_succ hk]
      exact SetHas.add x
    show wpAny _ A.in1 (holding [v] (setAdd S v) >>= _) _ _ s'
    refine wpAny_bind (wpAny_holding (go _ _ fun b s2 e sb x => ?_))
    obtain ⟨tk, e, le2⟩ := e
    rw [e]
    refine wpAny_pure ⟨plainId_quiet PyProof.Rows.F.plain_set_update_loop _, ih (i + 1) _ (by omega) lt (W.frame _ s' _ _ st' le2 fun b hb o e => ?_) x fun s'' mv' x' => ?_⟩
    · rw [sb.2 b fun h : b = S => out (h ▸ hb)]; exact e
    · refine fin s'' (Moved.trans W.gtrans ((mv.mono more).then_heap le2 fun b o hb e => ?_) mv') x'
      rw [sb.2 b fun h : b = S => hb (h ▸ List.mem_cons_self)]; exact e
end
section
variable {prog : Program} {w : World} {A : Around} {E : Value → Shared → Prop} {s : Shared}
/-- what stands behind the update of a new, empty set by an iterator -/
def SetMade (prog : Program) (w : World) (s : Shared) (ds : List D) (s2 : Shared) : Prop := ∃ h' tk, s2 = { s with heap := h', toks := tk } ∧ SetHas prog w h' s.heap.objs.size (metD ds) ∧ ∀ b o, b < s.heap.objs.size → s.heap.get? b = some o → h'.get? b = some o
abbrev emptySet (led : Bool) : Obj := { cls := .type "set", dict := none, data := .set #[] 0 (.fresh 0 0 led) }
theorem emptyHas {h : Heap} {a : Addr} {led : Bool} (g : h.get? a = some (emptySet led)) : SetHas prog w h a (metD [].toArray.toList) :=
  ⟨_, #[], 0, _, g, ⟨rfl, rfl, rfl⟩, rfl, fun e he => by simp at he, fun k => by simp [metD, inL], by unfold scanBound; decide, rfl, rfl⟩
set_option maxHeartbeats 3200000 in
theorem call_setK_list {l : Addr} {items : Array Value} {ds : List D} {Q : Value → Shared → Prop} (hh : A.handled = none) (src : s.heap.IsList l items)
    (hsz : items.size = ds.length) (small : ds.length < 4000) (val : ∀ (i : Nat) (v : Value), items[i]? = some v → ∃ k, ds[i]? = some (keyD k) ∧ RelV (kV k) v)
    (h : ∀ s2, SetMade prog w s ds s2 → Q (.ref s.heap.objs.size) s2) : wpAny (model prog w) A (call (.type "set") [.ref l]) Q E s := by
  obtain ⟨c, tl, hmro⟩ := PySem.F.called_set.mro
  have q1 := PySem.F.called_set.made
  have q2 := PySem.F.called_set.sub
  refine wpAny_call (codeAny_of_tree ?_)
  show wpAny _ _ (callAny (.type "set") _) _ _ _
  refine wpAny_pure ⟨Code.quiet_builtin _ (by decide +kernel), codeAny_builtin PySem.F.entry_type_call ?_⟩
  rw [Around.under_plain (weight_type_call_type "set" [.ref l] []) rfl]
  have q3 := PySem.F.called_set.notType
  have q4 := PySem.F.called_set.canCreate
  have q5 := PySem.F.typeCall_set_1 (.ref l)
  repeat (any_goals (first | assumption | wp_step))

  have fresh := code_set_new_1 (prog := prog) (w := w) (A := A.in1) (s := s) (.ref l) (E := E) (Q₁ := fun obj s1 => ∃ led : Bool, obj = .ref s.heap.objs.size ∧ s1 = { s with heap := s.heap.push (emptySet led) }) fun led => ⟨led, rfl, rfl⟩
  refine codeAny_mono fresh fun r1 s1 o1 => ?_
  cases r1 with
  | error e => exact o1
  | ok fl =>
    cases fl with
    | ret obj =>
      obtain ⟨led, rfl, rfl⟩ := o1
      have here : (s.heap.push (emptySet led)).get? s.heap.objs.size = some (emptySet led) := Heap.get?_push_size _ rfl
      have isSet : Shared.TypeIs { s with heap := s.heap.push (emptySet led) } (.ref s.heap.objs.size) "set" := ⟨_, here, rfl⟩
      have q6 := PySem.F.called_set.init.lookup
      have q7 := PySem.F.called_set.init.bind (.ref s.heap.objs.size)
      repeat (any_goals (first | assumption | wp_step))

      refine codeAny_mono (codeAny_call_builtin (R := wants (fun r s2 => r = .none ∧ SetMade prog w s ds s2) E) PySem.F.called_set.init.plain PySem.F.entry_set_init (check_set_init_1 isSet ?_)) fun r2 s2 o2 => ?_
      · obtain ⟨⟨ac, ad, at', asl⟩, got, cl, ep, dat⟩ := src
        simp only at cl dat
        subst cl
        subst dat
        have got' : (s.heap.push (emptySet led)).get? l = some { cls := .type "list", dict := ad, data := .seq items ep, slots := asl } := Heap.get?_push_of_some _ got
        have z1 := PySem.F.sub_list_set
        have z2 := PySem.F.sub_list_frozenset
        have z3 : (Value.type "list" == Value.type "dict") = false := by decide
        have src' : (s.heap.push (emptySet led)).IsList l items := ⟨_, got', rfl, ep, rfl⟩
        unfold Builtin.«set.__init__» noKeywords Builtin.Frozenset.updateFrom
        generalize hidden : pyIter = PI
        wp_walk
        subst hidden

        refine wpAny_pyIter_list src' (wpAny_bind (wpAny_runValue ?_))
        have lt : l < s.heap.objs.size := Heap.lt_size got
        have sz : (s.heap.push (emptySet led)).objs.size = s.heap.objs.size + 1 := Heap.size_push ..
        have calm : A.in1.in1.in1.handled = none := by simp [hh]
        have apart : l ≠ (s.heap.push (emptySet led)).objs.size := by
          rw [sz]; exact Nat.ne_of_lt (Nat.lt_succ_of_lt lt)
        have out : s.heap.objs.size ∉ [(s.heap.push (emptySet led)).objs.size, l] := by
          rw [sz]
          simp only [List.mem_cons, List.not_mem_nil, or_false, not_or]
          exact ⟨Nat.ne_of_lt (Nat.lt_succ_self _), Nat.ne_of_gt lt⟩
        refine setLoop ((Walks.list calm _ l apart items).toS) s.heap.objs.size out ds (by rw [hsz]; exact small) val (items.size - 0) 0 _ (by omega) (Nat.zero_le _) ⟨⟨_, Heap.get?_push_size _ rfl, rfl, rfl⟩, src'.push _⟩ ?start ?fin
        case start =>
          exact emptyHas (Heap.get?_push_of_some _ here)
        case fin =>
          intro s3 mv has
          obtain ⟨h3, g3, d3, t3, o3⟩ := s3
          have e1 : g3 = s.gens := mv.gens
          have e2 : d3 = s.drawn := mv.drawn
          have e3 : o3 = s.os := mv.os
          subst e1 e2 e3
          show wpAny _ _ _ _ _ _
          refine wpAny_pure ?_
          show wpAny _ _ (ret Value.none) _ _ _
          rw [hsz, List.take_length] at has
          refine wpAny_pure ⟨rfl, h3, t3, rfl, has, fun b o hb e => ?_⟩
          have nb : b ∉ [s.heap.objs.size, (s.heap.push (emptySet led)).objs.size] := by
            rw [sz]
            simp only [List.mem_cons, List.not_mem_nil, or_false, not_or]
            exact ⟨Nat.ne_of_lt hb, Nat.ne_of_lt (Nat.lt_succ_of_lt hb)⟩
          exact mv.heap b o nb (Heap.get?_push_of_some _ (Heap.get?_push_of_some _ e))
      · cases r2 with
        | error e => exact o2
        | ok fl2 =>
          cases fl2 with
          | ret r =>
            obtain ⟨rfl, made⟩ := o2
            repeat (any_goals (first | assumption | wp_step))
            exact h _ made
          | _ => exact o2.elim
    | _ => exact o1.elim
set_option maxHeartbeats 3200000 in
theorem call_setK_tuple {l : Addr} {items : Array Value} {ds : List D} {Q : Value → Shared → Prop} (hh : A.handled = none) (src : s.heap.IsTuple l items)
    (hsz : items.size = ds.length) (small : ds.length < 4000) (val : ∀ (i : Nat) (v : Value), items[i]? = some v → ∃ k, ds[i]? = some (keyD k) ∧ RelV (kV k) v)
    (h : ∀ s2, SetMade prog w s ds s2 → Q (.ref s.heap.objs.size) s2) : wpAny (model prog w) A (call (.type "set") [.ref l]) Q E s := by
  obtain ⟨c, tl, hmro⟩ := PySem.F.called_set.mro
  have q1 := PySem.F.called_set.made
  have q2 := PySem.F.called_set.sub
  refine wpAny_call (codeAny_of_tree ?_)
  show wpAny _ _ (callAny (.type "set") _) _ _ _
  refine wpAny_pure ⟨Code.quiet_builtin _ (by decide +kernel), codeAny_builtin PySem.F.entry_type_call ?_⟩
  rw [Around.under_plain (weight_type_call_type "set" [.ref l] []) rfl]
  have q3 := PySem.F.called_set.notType
  have q4 := PySem.F.called_set.canCreate
  have q5 := PySem.F.typeCall_set_1 (.ref l)
  repeat (any_goals (first | assumption | wp_step))

  have fresh := code_set_new_1 (prog := prog) (w := w) (A := A.in1) (s := s) (.ref l) (E := E) (Q₁ := fun obj s1 => ∃ led : Bool, obj = .ref s.heap.objs.size ∧ s1 = { s with heap := s.heap.push (emptySet led) }) fun led => ⟨led, rfl, rfl⟩
  refine codeAny_mono fresh fun r1 s1 o1 => ?_
  cases r1 with
  | error e => exact o1
  | ok fl =>
    cases fl with
    | ret obj =>
      obtain ⟨led, rfl, rfl⟩ := o1
      have here : (s.heap.push (emptySet led)).get? s.heap.objs.size = some (emptySet led) := Heap.get?_push_size _ rfl
      have isSet : Shared.TypeIs { s with heap := s.heap.push (emptySet led) } (.ref s.heap.objs.size) "set" := ⟨_, here, rfl⟩
      have q6 := PySem.F.called_set.init.lookup
      have q7 := PySem.F.called_set.init.bind (.ref s.heap.objs.size)
      repeat (any_goals (first | assumption | wp_step))

      refine codeAny_mono (codeAny_call_builtin (R := wants (fun r s2 => r = .none ∧ SetMade prog w s ds s2) E) PySem.F.called_set.init.plain PySem.F.entry_set_init (check_set_init_1 isSet ?_)) fun r2 s2 o2 => ?_
      · obtain ⟨⟨ac, ad, at', asl⟩, got, cl, ep, dat⟩ := src
        simp only at cl dat
        subst cl
        subst dat
        have got' : (s.heap.push (emptySet led)).get? l = some { cls := .type "tuple", dict := ad, data := .seq items ep, slots := asl } := Heap.get?_push_of_some _ got
        have z1 := PySem.F.sub_tuple_set
        have z2 := PySem.F.sub_tuple_frozenset
        have z3 : (Value.type "tuple" == Value.type "dict") = false := by decide
        have src' : (s.heap.push (emptySet led)).IsTuple l items := ⟨_, got', rfl, ep, rfl⟩
        unfold Builtin.«set.__init__» noKeywords Builtin.Frozenset.updateFrom
        generalize hidden : pyIter = PI
        wp_walk
        subst hidden

        refine wpAny_pyIter_tuple src' (wpAny_bind (wpAny_runValue ?_))
        have lt : l < s.heap.objs.size := Heap.lt_size got
        have sz : (s.heap.push (emptySet led)).objs.size = s.heap.objs.size + 1 := Heap.size_push ..
        have calm : A.in1.in1.in1.handled = none := by simp [hh]
        have apart : l ≠ (s.heap.push (emptySet led)).objs.size := by
          rw [sz]; exact Nat.ne_of_lt (Nat.lt_succ_of_lt lt)
        have out : s.heap.objs.size ∉ [(s.heap.push (emptySet led)).objs.size, l] := by
          rw [sz]
          simp only [List.mem_cons, List.not_mem_nil, or_false, not_or]
          exact ⟨Nat.ne_of_lt (Nat.lt_succ_self _), Nat.ne_of_gt lt⟩
        refine setLoop ((Walks.tuple calm _ l apart items).toS) s.heap.objs.size out ds (by rw [hsz]; exact small) val (items.size - 0) 0 _ (by omega) (Nat.zero_le _) ⟨⟨_, Heap.get?_push_size _ rfl, rfl, rfl⟩, src'.push _⟩ ?start ?fin
        case start =>
          exact emptyHas (Heap.get?_push_of_some _ here)
        case fin =>
          intro s3 mv has
          obtain ⟨h3, g3, d3, t3, o3⟩ := s3
          have e1 : g3 = s.gens := mv.gens
          have e2 : d3 = s.drawn := mv.drawn
          have e3 : o3 = s.os := mv.os
          subst e1 e2 e3
          show wpAny _ _ _ _ _ _
          refine wpAny_pure ?_
          show wpAny _ _ (ret Value.none) _ _ _
          rw [hsz, List.take_length] at has
          refine wpAny_pure ⟨rfl, h3, t3, rfl, has, fun b o hb e => ?_⟩
          have nb : b ∉ [s.heap.objs.size, (s.heap.push (emptySet led)).objs.size] := by
            rw [sz]
            simp only [List.mem_cons, List.not_mem_nil, or_false, not_or]
            exact ⟨Nat.ne_of_lt hb, Nat.ne_of_lt (Nat.lt_succ_of_lt hb)⟩
          exact mv.heap b o nb (Heap.get?_push_of_some _ (Heap.get?_push_of_some _ e))
      · cases r2 with
        | error e => exact o2
        | ok fl2 =>
          cases fl2 with
          | ret r =>
            obtain ⟨rfl, made⟩ := o2
            repeat (any_goals (first | assumption | wp_step))
            exact h _ made
          | _ => exact o2.elim
    | _ => exact o1.elim
end
theorem Reps.keys {K : PySem.W.Frag} {F : Hp} : ∀ {xs : List V} {ds : List D} {us : List Value}, Reps K F xs ds → Vals xs us → ds.all keyOk = true → ∀ (i : Nat) (v : Value), us[i]? = some v → ∃ k, ds[i]? = some (keyD k) ∧ RelV (kV k) v
  | _, _, _, .nil, .nil, _, i, v, h => by simp at h
  | _, _, _, .cons r rr, .cons q qq, ok, 0, v, h => by
    simp at h
    subst h
    rw [List.all_cons, Bool.and_eq_true] at ok
    obtain ⟨k, rfl, rfl⟩ := rep_key r ok.1
    exact ⟨k, rfl, q⟩
  | _, _, _, .cons r rr, .cons q qq, ok, i + 1, v, h => by
    rw [List.all_cons, Bool.and_eq_true] at ok
    obtain ⟨k, h1, h2⟩ := Reps.keys rr qq ok.2 i v (by simpa using h)
    exact ⟨k, by simpa using h1, h2⟩
/-- set(x), new -/
theorem run_set {X : Cx} {pins : List (Addr × Obj)} {s : Shared} {σ : L2.St} {H F : Hp} {x : D} {v : V} {u : Value} {ds : List D} {Q : Value → Shared → Prop} {A : Around} {E : Value → Shared → Prop} (I : Inv X pins σ H s) (sub : Same F H) (r : RepB X.K H F v x) (rv : RelV v u)
    (hx : (x = .list ds ∨ x = .tuple ds) ∧ ds.all keyOk = true ∧ ds.length < 4000) (hh : A.handled = none) (h : ∀ s2, SetMade X.prog X.w s ds s2 → Q (.ref s.heap.objs.size) s2) : wpAny (model X.prog X.w) A (call (.type "set") [u]) Q E s := by
  obtain ⟨hx, ok, small⟩ := hx
  rcases hx with rfl | rfl
  · obtain ⟨a, xs, rfl, hs, rr⟩ := r.list sub
    cases rv
    obtain ⟨its, q, p, hz⟩ := I.list hs
    have e := q.length
    have e2 := rr.length
    exact call_setK_list hh p.isList (by rw [List.size_toArray]; omega) small (fun i v hv => rr.keys q ok i v (by simpa using hv)) h
  · obtain ⟨a, xs, rfl, _, hs, rr⟩ := r.tuple sub
    cases rv
    obtain ⟨its, q, p, hz⟩ := I.tuple hs
    have e := q.length
    have e2 := rr.length
    exact call_setK_tuple hh p (by rw [List.size_toArray]; omega) small (fun i v hv => rr.keys q ok i v (by simpa using hv)) h
theorem Inv.made {X : Cx} {pins : List (Addr × Obj)} {s s2 : Shared} {σ : L2.St} {H : Hp} {ds : List D} (I : Inv X pins σ H s) (m : SetMade X.prog X.w s ds s2) : Inv X pins σ H s2 := by
  obtain ⟨h', tk, rfl, _, k⟩ := m
  exact I.kept fun b o e => k b o (Heap.lt_size e) e
section
variable {X : Cx} {a : Expr} {f : F1} {p p2 q pos : Pos}
theorem x_lenSet (hc : X.calm = true) (hg : Gl X "len") (hm : X.mg "len" = none) (hg2 : Gl X "set") (hm2 : X.mg "set" = none) (ha : PB X a f) (na : starEach [a] X.env = (false, eval a X.env) :: starEach [] X.env := by rfl) :
    PX X (.Call (.Name "len" p) [.Call (.Name "set" p2) [a] [] q] [] pos) (f1 lenSetD f) := by
  refine ⟨fun pins s σ H Q I ⟨H0, F0, F, ρ, d, S, hd, qq⟩ => ?_⟩
  obtain ⟨x, hx, ho⟩ := f1_some hd
  have shape : ∃ ds, ((x = .list ds ∨ x = .tuple ds) ∧ ds.all keyOk = true ∧ ds.length < 4000) ∧ d = .int (metD ds).length := by
    unfold lenSetD at ho
    split at ho
    · split at ho
      · rename_i hk
        cases ho
        rw [Bool.and_eq_true] at hk
        exact ⟨_, ⟨.inl rfl, hk.1, of_decide_eq_true hk.2⟩, rfl⟩
      · cases ho
    · split at ho
      · rename_i hk
        cases ho
        rw [Bool.and_eq_true] at hk
        exact ⟨_, ⟨.inr rfl, hk.1, of_decide_eq_true hk.2⟩, rfl⟩
      · cases ho
    · cases ho
  obtain ⟨ds, hds, rfl⟩ := shape
  refine Call_ (ld_blt I hg hm PySem.boot_len (PyProof.Rows.callWith_builtin1 (PyProof.Rows.args_cons ?_ rfl) rfl rfl))
  refine Call_ (ld_blt I hg2 hm2 PyProof.Rows.boot_set (PyProof.Rows.callWith_type1 (PyProof.Rows.args_cons ?_ na) na rfl))
  refine thn (ha.run pins s σ H (fun v H' => ∃ F', Ext H F H' F' ∧ RepB X.K H' F' v x) I ⟨H0, F0, F, ρ, x, S, hx, fun H' F' v e r => ⟨F', e, r⟩⟩) fun u s1 hv => PyProof.Rows.args_nil ?_
  obtain ⟨v, H1, I1, rv, F1, e1, r1⟩ := hv
  refine run_set I1 e1.sub r1 rv hds (I1.ok.hd hc) fun s2 m => ?_
  have I2 := Inv.made I1 m
  obtain ⟨h', tk, rfl, has, k⟩ := m
  obtain ⟨o, es, ep, t, ho', hex, hdt, _, _, hb, hf, hn⟩ := has
  refine PyProof.Rows.args_nil (call_len_set ho' hex hdt hf (by unfold scanBound at hb; omega) ?_)
  exact ⟨.int (metD ds).length, H1, I2.tok _, ⟨_, by rw [hn]⟩, qq H1 F1 _ e1 (.int _)⟩
end
end Pu
set_option maxRecDepth 100000
/-! enumerate of tuples and texts; zip in any mix. -/
namespace Pu
open PySem PySem.Spec PyProof.Rows L2

section
open PyProof
set_option maxHeartbeats 1000000 in
theorem enum_new1 {v : Value} {o : Obj} {Hd : Heap → Prop} (B : Begins v o Hd) :
    Meets (Builtin.«enumerate.__new__» ⟨[.type "enumerate", v], []⟩) (fun _ R s => Hd s.heap ∧
      R (.ok (.ret (.ref (s.heap.push o).objs.size))) { s with heap := (s.heap.push o).push { cls := .type "enumerate", data := .fields #[.none, .bool false, .ref s.heap.objs.size, rawInt 0, .none, .none] } }) :=
  .of_wp fun prog w A R s hyp => by
    obtain ⟨hp, gn, dr, tk, os⟩ := s
    obtain ⟨h1, fin⟩ := hyp
    have hsub := sub_enumerate
    have begun : ∀ {A' : Around} {E : Value → Shared → Prop} {Q : Value → Shared → Prop}, Q (.ref hp.objs.size) ⟨hp.push o, gn, dr, tk, os⟩ → wpAny (model prog w) A' (pyIter v) Q E ⟨hp, gn, dr, tk, os⟩ :=
      fun q => B.iter prog w _ _ ⟨hp, gn, dr, tk, os⟩ _ h1 q
    wp_walk using begun
    refine wpAny_stack_any fun st => wpAny_pure ?_
    split
    · rename_i c _ _ _ _ _
      cases (c == Value.type "enumerate") <;> (wp_walk using begun; exact ⟨_, rfl, fin⟩)
    · wp_walk using begun
      exact ⟨_, rfl, fin⟩
theorem enum_call1 {prog : Program} {w : World} {A : Around} {E : Value → Shared → Prop} {s : Shared} {v : Value} {o : Obj} {Hd : Heap → Prop} {Q : Value → Shared → Prop} (B : Begins v o Hd) (h1 : Hd s.heap)
    (h : ∀ h', IsEnum h' (s.heap.objs.size + 1) s.heap.objs.size 0 .none → h'.get? s.heap.objs.size = some o → (∀ b o, s.heap.get? b = some o → h'.get? b = some o) → Q (.ref (s.heap.objs.size + 1)) { s with heap := h' }) :
    wpAny (model prog w) A (call (.type "enumerate") [v]) Q E s := by
  refine callType_new F.called_enumerate (by decide) (F.typeCall_enumerate_1 _) (F.newCall_enumerate_1 _) (fun obj => F.args_object_init_2 obj _) F.entry_enumerate_new (enum_new1 B) ⟨h1, ?_⟩
  have sz : (s.heap.push o).objs.size = s.heap.objs.size + 1 := Heap.size_push ..
  have en := Heap.get?_push_size (s.heap.push o) (o := { cls := .type "enumerate", data := .fields #[.none, .bool false, .ref s.heap.objs.size, rawInt 0, .none, .none] }) rfl
  show _ ∧ _
  rw [sz] at en ⊢
  exact ⟨⟨_, en, rfl⟩, h _ en (Heap.get?_push_of_some _ (Heap.get?_push_size _ B.free)) fun b o x => Heap.get?_push_of_some _ (Heap.get?_push_of_some _ x)⟩
end

/-- the items at f, numbered, in new pairs -/
def Itn (go : Nat → Hp → Prop) (f : Nat → Hp → V → Prop) (stop : Nat → Hp → Prop) : It := ⟨go, fun i H v H' => ∃ T x, v = .ref T ∧ H T = none ∧ H' = upd H T (.tup [.int (i : Nat), x]) ∧ f i H x, stop⟩
def IteT (K : PySem.W.Frag) (a : Addr) : It := Itn (fun i H => ∃ (xs : List V) (x : V), SqT K H a xs ∧ xs[i]? = some x) (fun i H x => ∀ xs, SqT K H a xs → xs[i]? = some x) (fun i H => ∃ xs : List V, SqT K H a xs ∧ xs.length = i)
def IteS (z : Str) : It := Itn (fun i _ => i < z.cps.size) (fun i _ x => ∃ c, z.cps[i]? = some c ∧ x = .str ⟨#[c]⟩) (fun i _ => z.cps.size = i)
/-- one numbered item comes -/
theorem enum_item {X : Cx} {pins : List (Addr × Obj)} {σ : L2.St} {H : Hp} {s : Shared} {E : Value → Shared → Prop} {elts : List Expr} {kk : Nat} {tpos : Pos} {e it : Addr} {fp : List Addr} {n i : Nat} {P : Nat → Value → Prop} {Sd : Nat → Heap → Prop} {old : Value} {Q : V → Prop}
    (I : Inv X pins σ H s) (fr : ∀ b ∈ [e, it], FpOk X pins H b) (Dr : Draws X.prog X.w X.A.in1 it fp n P Sd) (en : IsEnum s.heap e it ((i : Nat) : Int) old) (st : Sd i s.heap) (lt : i < n) (ne : e ≠ it) (nf : e ∉ fp) (hv : ∀ u, P i u → ∃ x, RelV x u ∧ Q x) :
    wpAny (model X.prog X.w) X.A (pyNext (.ref e)) (fun r s1 => ∃ u, r = some u ∧ wpAny (model X.prog X.w) X.A (letOwnedTupleGo (.Tuple elts kk tpos) (.ref e) u) (fun _ s2 => ∃ x H', Inv X pins σ H' s2 ∧ RelV x u ∧
      (∃ T y, x = .ref T ∧ H T = none ∧ H' = upd H T (.tup [.int (i : Nat), y]) ∧ Q y) ∧ ((∃ old, IsEnum s2.heap e it ((i + 1 : Nat) : Int) old) ∧ Sd (i + 1) s2.heap) ∧ ∀ b ∈ [e, it], H' b = none) E s1) E s := by
  have hel : e < s.heap.objs.size := Heap.lt_size en
  have hil : it < s.heap.objs.size := by
    obtain ⟨o, q⟩ := Dr.live _ _ st
    exact Heap.lt_size q
  refine wpAny_pyNext_enum_itemD Dr en st lt ne nf fun u h' tk hP out st' hT _ kp => ⟨_, rfl, wpAny_letOwnedTupleGo_enum (s := { s with heap := h', toks := tk + 1 }) out fun h2 en' sb => ?_⟩
  obtain ⟨x, rx, qx⟩ := hv u hP
  have hT2 := (sb.2 _ (Nat.ne_of_gt hel)).trans hT
  have ok : ObjOk X.prog X.w (upd H s.heap.objs.size (.tup [.int (i : Nat), x])) h2 s.heap.objs.size (.tup [.int (i : Nat), x]) :=
    ⟨by show 2 ≤ sizeLine; decide, [.int i tk, u], .cons ⟨_, rfl⟩ (.cons rx .nil), ⟨_, hT2, rfl, _, rfl⟩⟩
  have I1 : Inv X pins σ _ { s with heap := h2, toks := tk + 1 } :=
    I.turnedNew (ch := [e, it]) (fun b ob hb q => (sb.2 b fun z => hb (by simp [z])).trans (kp b ob (fun z => hb (by simp [z])) (fun z => hb (by simp [z])) q)) fr (Nat.le_refl _) ok
  refine ⟨.ref s.heap.objs.size, _, I1, rfl, ⟨_, x, rfl, I.hok.fresh (Nat.le_refl _), rfl, qx⟩, ⟨⟨u, ?_⟩, Dr.frame _ _ _ st' fun b hb o q => (sb.2 b fun z => nf (z ▸ hb)).trans q⟩, fun b hb => ?_⟩
  · rw [show ((i + 1 : Nat) : Int) = (i : Int) + 1 by omega]; exact en'
  · have hb' : b < s.heap.objs.size := by
      rcases List.mem_cons.mp hb with rfl | hb
      · exact hel
      · rw [List.mem_singleton.mp hb]; exact hil
    rw [upd_ne (Nat.ne_of_lt hb')]
    exact (fr b hb).1
theorem enum_done {X : Cx} {pins : List (Addr × Obj)} {σ : L2.St} {H : Hp} {s : Shared} {E : Value → Shared → Prop} {e it : Addr} {fp : List Addr} {n : Nat} {P : Nat → Value → Prop} {Sd : Nat → Heap → Prop} {old : Value} {i : Int}
    (I : Inv X pins σ H s) (fr : ∀ b ∈ [e, it], FpOk X pins H b) (Dr : Draws X.prog X.w X.A.in1 it fp n P Sd) (en : IsEnum s.heap e it i old) (st : Sd n s.heap) : wpAny (model X.prog X.w) X.A (pyNext (.ref e)) (fun r s1 => r = none ∧ Inv X pins σ H s1) E s := by
  obtain ⟨f0, f1, f2, f3, f4, f5⟩ := fr it (by simp)
  exact wpAny_pyNext_enum_endD Dr en st fun h' eb => ⟨rfl, I.turned (t' := s.toks) (fun b o hb q => eb b o hb q) f0 f1 f3 f4 f5⟩
theorem enum_obj {h : Heap} {e it : Addr} {i : Int} (a : ∃ old, IsEnum h e it i old) (b : ∃ o, h.get? it = some o ∧ ∀ v, o.data ≠ .cell v) : ∀ c ∈ [e, it], ∃ o, h.get? c = some o ∧ ∀ v, o.data ≠ .cell v := fun c hc => by
  obtain ⟨old, he⟩ := a
  rcases List.mem_cons.mp hc with rfl | hc
  · exact ⟨_, he, fun v q => nomatch q⟩
  · rw [List.mem_singleton.mp hc]; exact b
theorem turn_enumT {P : Program} {w : World} {K : PySem.W.Frag} {elts : List Expr} {kk : Nat} {tpos : Pos} (a e it : Addr) (ne : e ≠ it) (na : e ≠ a) (nb : a ≠ it) :
    Turn P w K (.Tuple elts kk tpos) (IteT K a) [e, it] e (fun i h => (∃ old, IsEnum h e it ((i : Nat) : Int) old) ∧ h.IsTupleIter it a i) where
  mem := by simp
  obj := fun i h st => enum_obj st.1 (by
    obtain ⟨o, ho, hc, hd⟩ := st.2
    exact ⟨o, ho, fun v q => by rw [hd] at q; cases q⟩)
  keep := fun i h h' st k => by
    obtain ⟨⟨old, he⟩, hi⟩ := st
    exact ⟨⟨old, k e (by simp) _ he⟩, hi.at fun o q => k it (by simp) o q⟩
  item := by
    intro X hP hw hK hc i pins s σ H E I fr st hg
    subst hP hw hK
    obtain ⟨⟨old, he⟩, hit⟩ := st
    obtain ⟨xs, x, hq, hx⟩ := hg
    obtain ⟨its, rv, p, _⟩ := I.tuple hq
    have hl := rv.length
    have hlt : i < its.toArray.size := by
      rw [List.size_toArray, ← hl]
      exact (List.getElem?_eq_some_iff.mp hx).1
    have Dr := Draws.tuple (prog := X.prog) (w := X.w) (A := X.A.in1) (I.ok.hd hc) it a nb its.toArray
    refine thn (enum_item (elts := elts) (kk := kk) (tpos := tpos) (Q := fun y => ∀ xs, SqT X.K H a xs → xs[i]? = some y) I fr Dr he ⟨hit, p⟩ hlt ne (by simp [ne, na]) fun u hu => ?_) fun r s1 hr => ?_
    · obtain ⟨u', hu', ru⟩ := rv.get hx
      have : u = u' := Option.some.inj (hu.symm.trans (by simpa using hu'))
      subst this
      exact ⟨x, ru, fun ys hy => by rw [I.tuple_inj hy hq]; exact hx⟩
    · obtain ⟨u, e1, h2⟩ := hr
      refine ⟨u, e1, thn h2 fun _ s2 hs => ?_⟩
      obtain ⟨y, H', J, ry, yl, ⟨en, hi', _⟩, nn⟩ := hs
      exact ⟨y, H', J, ry, yl, ⟨en, hi'⟩, nn⟩
  done := by
    intro X hP hw hK hc i pins s σ H E I fr st hg
    subst hP hw hK
    obtain ⟨⟨old, he⟩, hit⟩ := st
    obtain ⟨xs, hq, hx⟩ := hg
    obtain ⟨its, rv, p, _⟩ := I.tuple hq
    have hl := rv.length
    have hn : i = its.toArray.size := by
      rw [List.size_toArray, ← hl]
      exact hx.symm
    subst hn
    exact enum_done I fr (Draws.tuple (prog := X.prog) (w := X.w) (A := X.A.in1) (I.ok.hd hc) it a nb its.toArray) he ⟨hit, p⟩
  self := fun A i s Q E st h => by
    obtain ⟨⟨_, he⟩, _⟩ := st
    exact wpAny_pyIter_enum he h
theorem turn_enumS {P : Program} {w : World} {K : PySem.W.Frag} {elts : List Expr} {kk : Nat} {tpos : Pos} (z : Str) (tk : Tok) (e it : Addr) (ne : e ≠ it) :
    Turn P w K (.Tuple elts kk tpos) (IteS z) [e, it] e (fun i h => (∃ old, IsEnum h e it ((i : Nat) : Int) old) ∧ h.IsStrIter it (strIterType z) z tk i) where
  mem := by simp
  obj := fun i h st => enum_obj st.1 (by
    obtain ⟨o, ho, hc, hd⟩ := st.2
    exact ⟨o, ho, fun v q => by rw [hd] at q; cases q⟩)
  keep := fun i h h' st k => by
    obtain ⟨⟨old, he⟩, o, i1, i2, i3⟩ := st
    exact ⟨⟨old, k e (by simp) _ he⟩, o, k it (by simp) o i1, i2, i3⟩
  item := by
    intro X hP hw hK hc i pins s σ H E I fr st hg
    subst hP hw hK
    obtain ⟨⟨old, he⟩, hit⟩ := st
    have Dr := Draws.text (prog := X.prog) (w := X.w) (A := X.A.in1) (I.ok.hd hc) it z tk
    exact enum_item (Q := fun y => ∃ c, z.cps[i]? = some c ∧ y = .str ⟨#[c]⟩) I fr Dr he hit hg ne (by simp [ne]) fun u ⟨c, t, h1, h2⟩ => ⟨.str ⟨#[c]⟩, ⟨t, h2⟩, c, h1, rfl⟩
  done := by
    intro X hP hw hK hc i pins s σ H E I fr st hg
    subst hP hw hK
    obtain ⟨⟨old, he⟩, hit⟩ := st
    have hn : z.cps.size = i := hg
    subst hn
    exact enum_done I fr (Draws.text (prog := X.prog) (w := X.w) (A := X.A.in1) (I.ok.hd hc) it z tk) he hit
  self := fun A i s Q E st h => by
    obtain ⟨⟨_, he⟩, _⟩ := st
    exact wpAny_pyIter_enum he h
def iEnumT (K : PySem.W.Frag) (ta : TA) : TI := fun σ H R => ta σ H fun vs H1 => ∃ a xs, vs = [.ref a] ∧ SqT K H1 a xs ∧ R (IteT K a) H1
def iEnumS (ta : TA) : TI := fun σ H R => ta σ H fun vs H1 => ∃ z, vs = [.str z] ∧ R (IteS z) H1
section
variable {X : Cx} {e : Expr} {ta : TA} {p pos tpos : Pos} {elts : List Expr} {kk : Nat}
theorem pi_enumT (hc : X.calm = true) (hg : Gl X "enumerate") (hm : X.mg "enumerate" = none) (ha : PA X [e] ta) (hs : starEach [e] X.env = [(false, eval e X.env)] := by rfl) : PI X (.Tuple elts kk tpos) (.Call (.Name "enumerate" p) [e] [] pos) (iEnumT X.K ta) := by
  refine ⟨fun pins s σ H R I h => Call_ (ld_blt I hg hm (by decide +kernel : bootBuiltins "enumerate" = some (.type "enumerate")) (PyProof.Rows.callWith_type1 (thn (ha.run pos pins s σ H _ I h) fun us s1 ⟨vs, H1, I1, r1, q1⟩ => ?_) hs rfl))⟩
  obtain ⟨a, xs, rfl, hq, q⟩ := q1
  obtain ⟨u, rfl, ru⟩ := vals1 r1
  cases ru
  obtain ⟨its, rv, tp, _⟩ := I1.tuple hq
  refine enum_call1 (begins_tuple a its.toArray) tp fun h' en it kp => wpAny_pyIter_enum en ?_
  have hlt := tp.lt
  have ne : s1.heap.objs.size + 1 ≠ s1.heap.objs.size := Nat.succ_ne_self _
  refine ⟨_, [s1.heap.objs.size + 1, s1.heap.objs.size], _, _, H1, rfl, I1.kept (t' := s1.toks) kp, turn_enumT a _ _ ne (Nat.ne_of_gt (Nat.lt_succ_of_lt hlt)) (Nat.ne_of_lt hlt), ⟨⟨.none, en⟩, ⟨_, it, rfl, rfl⟩⟩, fun b hb => ?_, q⟩
  have hle : s1.heap.objs.size ≤ b := by
    rcases List.mem_cons.mp hb with rfl | hb
    · exact Nat.le_succ _
    · rw [List.mem_singleton.mp hb]; exact Nat.le_refl _
  exact I1.fpOk hle (I1.hok.fresh hle)
theorem pi_enumS (hc : X.calm = true) (hg : Gl X "enumerate") (hm : X.mg "enumerate" = none) (ha : PA X [e] ta) (hs : starEach [e] X.env = [(false, eval e X.env)] := by rfl) : PI X (.Tuple elts kk tpos) (.Call (.Name "enumerate" p) [e] [] pos) (iEnumS ta) := by
  refine ⟨fun pins s σ H R I h => Call_ (ld_blt I hg hm (by decide +kernel : bootBuiltins "enumerate" = some (.type "enumerate")) (PyProof.Rows.callWith_type1 (thn (ha.run pos pins s σ H _ I h) fun us s1 ⟨vs, H1, I1, r1, q1⟩ => ?_) hs rfl))⟩
  obtain ⟨z, rfl, q⟩ := q1
  obtain ⟨u, rfl, ru⟩ := vals1 r1
  obtain ⟨tk, rfl⟩ := ru
  refine enum_call1 (begins_text z tk) trivial fun h' en it kp => wpAny_pyIter_enum en ?_
  have ne : s1.heap.objs.size + 1 ≠ s1.heap.objs.size := Nat.succ_ne_self _
  refine ⟨_, [s1.heap.objs.size + 1, s1.heap.objs.size], _, _, H1, rfl, I1.kept (t' := s1.toks) kp, turn_enumS z tk _ _ ne, ⟨⟨.none, en⟩, ⟨_, it, rfl, rfl⟩⟩, fun b hb => ?_, q⟩
  have hle : s1.heap.objs.size ≤ b := by
    rcases List.mem_cons.mp hb with rfl | hb
    · exact Nat.le_succ _
    · rw [List.mem_singleton.mp hb]; exact Nat.le_refl _
  exact I1.fpOk hle (I1.hok.fresh hle)
end
section
variable {K : PySem.W.Frag} {B F1 : Hp}
theorem yld_enumT {a : Addr} {xs : List V} {ds : List D} (hs : B a = some (.tup xs)) (r : Reps K F1 xs ds) : Yld K (IteT K a) B F1 (numFrom 0 ds) := fun i H F gB gF sub => by
  have hs' : SqT K H a xs := .of (gB _ _ hs)
  rw [num_len]
  refine ⟨fun hi => ?_, fun hi => ⟨xs, hs', by rw [r.length]; omega⟩, fun x H' d hd hy => ?_⟩
  · have hx : i < xs.length := by rw [r.length]; exact hi
    exact ⟨xs, xs[i], hs', by simp [hx]⟩
  · obtain ⟨T, y, rfl, hT, rfl, hx⟩ := hy
    obtain ⟨e, he, rfl⟩ := num_get hd
    obtain ⟨x', e', r'⟩ := r.get he
    have := hx xs hs'
    rw [e'] at this
    cases this
    refine ⟨_, Ext.laid sub _ hT, .tup upd_same (.cons ?_ (.cons (r'.mono (gF.trans (same_upd (sub.free hT)))) .nil))⟩
    rw [Nat.zero_add]; exact .int _
theorem yld_enumS {z : Str} (ok : PyData.strOk z = true) : Yld K (IteS z) B F1 (numFrom 0 (z.cps.toList.map fun c => .str ⟨#[c]⟩)) := fun i H F gB gF sub => by
  have hl : (z.cps.toList.map fun c => (PyData.str ⟨#[c]⟩)).length = z.cps.size := by simp
  rw [num_len, hl]
  refine ⟨fun hi => hi, fun hi => hi.symm, fun x H' d hd hy => ?_⟩
  obtain ⟨T, y, rfl, hT, rfl, c, hc, rfl⟩ := hy
  obtain ⟨e, he, rfl⟩ := num_get hd
  have e2 : e = .str ⟨#[c]⟩ := by
    rw [List.getElem?_map] at he
    have e2 : z.cps.toList[i]? = some c := by simpa using hc
    rw [e2] at he
    exact (Option.some.inj he).symm
  subst e2
  have hm : c ∈ z.cps := by
    obtain ⟨h1, h2⟩ := Array.getElem?_eq_some_iff.mp hc
    rw [← h2]; exact Array.getElem_mem h1
  have ok' : PyData.strOk ⟨#[c]⟩ = true := by
    unfold PyData.strOk at ok ⊢
    have := Array.all_eq_true_iff_forall_mem.mp ok c hm
    simpa using this
  refine ⟨_, Ext.laid sub _ hT, .tup upd_same (.cons ?_ (.cons (.str _ ok') .nil))⟩
  rw [Nat.zero_add]; exact .int _
end
/-- enumerate(x), x a list, a tuple or a text -/
def sEnum (a : F1) : FA := fun ρ => match a ρ with
  | some (.list ds) => some (numFrom 0 ds)
  | some (.tuple ds) => some (numFrom 0 ds)
  | some (.str x) => some (numFrom 0 (x.cps.toList.map fun c => .str ⟨#[c]⟩))
  | _ => none
theorem i_enum {X : Cx} {a : Expr} {f : F1} {p pos tpos : Pos} {elts : List Expr} {kk : Nat} (hg : Gl X "enumerate") (hm : X.mg "enumerate" = none) (ha : PX X a f) (hc : X.calm = true := by rfl) (h1 : starEach [a] X.env = (false, eval a X.env) :: starEach [] X.env := by rfl) (hs : starEach [a] X.env = [(false, eval a X.env)] := by rfl) :
    IX X (.Tuple elts kk tpos) (.Call (.Name "enumerate" p) [a] [] pos) false (sEnum f) := piImp (piOr (piOr (pi_enum hg hm (pa_cons ha pa_nil h1) hs) (pi_enumT hc hg hm (pa_cons ha pa_nil h1) hs)) (pi_enumS hc hg hm (pa_cons ha pa_nil h1) hs)) fun σ H R ⟨H0, F0, F, ρ, ds, S, hd, q⟩ => by
  unfold sEnum at hd
  split at hd
  · rename_i e
    cases hd
    refine .inl (.inl ⟨H0, F0, F, ρ, _, S, e, fun H1 F1 v e1 r1 => ?_⟩)
    cases r1 with
    | lst hs r => exact ⟨_, _, rfl, e1.sub.seq hs, q H1 F1 _ e1 (yld_enumL hs r)⟩
  · rename_i e
    cases hd
    refine .inl (.inr ⟨H0, F0, F, ρ, _, S, e, fun H1 F1 v e1 r1 => ?_⟩)
    cases r1 with
    | tup hs r => exact ⟨_, _, rfl, .of (e1.sub _ _ hs), q H1 F1 _ e1 (yld_enumT hs r)⟩
  · rename_i e
    cases hd
    refine .inr ⟨H0, F0, F, ρ, _, S, e, fun H1 F1 v e1 r1 => ?_⟩
    obtain ⟨h1, ok⟩ := RepB.str (H := H1) (.inl r1)
    exact ⟨_, by rw [h1], q H1 F1 _ e1 (yld_enumS ok)⟩
  · cases hd
end Pu
set_option maxRecDepth 100000
/-! Comprehensions with two fors; stores into lists and dicts; pop. -/
namespace Pu
open PySem PySem.Spec PyProof.Rows L2

section
variable {X : Cx} {elt tg iter tg1 iter1 : Expr} {ifs ifs1 : List Expr} {scope : Scope} {own : List (Str × Nat)} {vs1 : List Nat} {pos : Pos} {g g1 : TG} {tf tf1 : TgF} {src src1 : FA} {t t1 : FB} {f : F1}
theorem compL2_step {vs1 : List Nat} {e : F1} {ρ : Rho} {d : D} {ds : List D} {r : List D} (h : compL2 tf t vs1 src1 tf1 t1 e ρ (d :: ds) = some r) :
    ∃ ρ1 b, tf d ρ = some ρ1 ∧ t ρ1 = some b ∧ ((b = true ∧ ∃ ds1 r1 r', src1 ρ1 = some ds1 ∧ compL tf1 t1 e (wipeR ρ1 vs1) ds1 = some r1 ∧ compL2 tf t vs1 src1 tf1 t1 e ρ ds = some r' ∧ r = r1 ++ r') ∨ (b = false ∧ compL2 tf t vs1 src1 tf1 t1 e ρ ds = some r)) := by
  obtain ⟨ρ1, h1, h2⟩ := Option.bind_eq_some_iff.mp h
  obtain ⟨b, h3, h4⟩ := Option.bind_eq_some_iff.mp h2
  refine ⟨ρ1, b, h1, h3, ?_⟩
  cases b with
  | true =>
    rw [if_pos rfl] at h4
    obtain ⟨ds1, h5, h6⟩ := Option.bind_eq_some_iff.mp h4
    obtain ⟨r1, h7, h8⟩ := Option.bind_eq_some_iff.mp h6
    obtain ⟨r', h9, h10⟩ := Option.bind_eq_some_iff.mp h8
    exact .inl ⟨rfl, ds1, r1, r', h5, h7, h9, (Option.some.inj h10).symm⟩
  | false => exact .inr ⟨rfl, by simpa using h4⟩
theorem lc2_go {K : PySem.W.Frag} {vs : List Nat} (htg : TgOk K vs g tf) (htg1 : TgOk K vs1 g1 tf1) : ∀ σ H Q, tF K (fLc2 vs src tf t vs1 src1 tf1 t1 f) σ H Q → tLc2 (tI K true src) g (tTs K t) (tI K false src1) g1 (tTs K t1) (tX K f) vs vs1 σ H Q := fun σ H Q ⟨H0, F0, F, ρ, d, S, hd, q⟩ => by
  obtain ⟨ds, h1, h2⟩ := Option.bind_eq_some_iff.mp hd
  obtain ⟨r, h3, h4⟩ := Option.bind_eq_some_iff.mp h2
  split at h4
  case isFalse => cases h4
  rename_i hz
  cases h4
  have hz : r.length ≤ sizeLine := of_decide_eq_true hz
  refine ⟨H0, F0, F, ρ, ds, S, h1, fun H1 F1 J e1 y Dd hD => ?_⟩
  have y : Yld K J H1 F1 ds := y
  have S1 := S.ext e1
  have h0 : H0 Dd = none := S.h.free (e1.h.free hD)
  have no : Apart σ ρ Dd := S1.noOwn hD
  have C0 : CSt K H0 F0 H1 F1 σ ρ Dd r r (upd H1 Dd (.lst [])) F1 [] [] := ⟨S1.aside (e1.sub.free hD) h0 no, same_upd hD, Same.refl _, e1.sub.free hD, upd_same, .nil, rfl, fun _ _ z => .inl z⟩
  refine ⟨fun i m H => m = ds.length - i ∧ i ≤ ds.length ∧ ∃ rest F acc accD, CSt K H0 F0 H1 F1 σ ρ Dd r rest H F acc accD ∧ compL2 tf t vs1 src1 tf1 t1 f (wipeR ρ vs) (ds.drop i) = some rest, ⟨ds.length, by simp, Nat.zero_le _, r, F1, [], [], C0, by simpa using h3⟩, ?_⟩
  rintro i m H ⟨rfl, hi', rest, F2, acc, accD, C, hr⟩
  obtain ⟨y1, y2, y3⟩ := y i H F2 C.h C.f C.st.sub
  by_cases hlt : i < ds.length
  · have hdr : ds.drop i = ds[i] :: ds.drop (i + 1) := List.drop_eq_getElem_cons hlt
    rw [hdr] at hr
    obtain ⟨ρ1, b, g1', g2, g3⟩ := compL2_step hr
    refine .inr ⟨y1 hlt, fun H => ∃ rest F acc accD, CSt K H0 F0 H1 F1 σ ρ Dd r rest H F acc accD ∧ compL2 tf t vs1 src1 tf1 t1 f (wipeR ρ vs) (ds.drop (i + 1)) = some rest, fun H' w => ⟨_, by omega, rfl, hlt, w⟩, fun x H' yy => ?_⟩
    obtain ⟨F3, e3, r3⟩ := y3 x H' ds[i] (by simp [hlt]) yy
    have C3 := C.ext e3
    refine htg.run H0 F0 F3 H' _ _ ρ1 x _ _ (C3.st.wipe _) r3 g1' fun σ2 S2 hw ap => ⟨by rw [hw]; exact wipe_twice _ _, ?_⟩
    refine ⟨H0, F0, F3, ρ1, b, S2, g2, fun H4 F4 e4 => ?_⟩
    have own2 : Apart σ2 ρ1 Dd := ap Dd (Apart.wipe no vs)
    rcases g3 with ⟨rfl, ds1, r1, rest', g4, g5, g6, rfl⟩ | ⟨rfl, g5⟩
    · refine iteT ⟨H0, F0, F4, ρ1, ds1, S2.ext e4, g4, fun H5 F5 J1 e5 yI => ?_⟩
      have yI : Yld K J1 F5 F5 ds1 := yI
      have C5 := (C3.ext e4).ext e5
      -- the inner walk
      refine ⟨fun j k H => k = ds1.length - j ∧ j ≤ ds1.length ∧ ∃ rest1 F acc accD, CSt K H0 F0 H1 F1 σ ρ Dd r (rest1 ++ rest') H F acc accD ∧ St K H0 F0 H F σ2 ρ1 ∧ Same F5 F ∧ compL tf1 t1 f (wipeR ρ1 vs1) (ds1.drop j) = some rest1, ⟨ds1.length, by simp, Nat.zero_le _, r1, F5, acc, accD, C5, (S2.ext e4).ext e5, Same.refl _, by simpa using g5⟩, ?_⟩
      rintro j k H ⟨rfl, hj, rest1, F6, acc6, accD6, C6, S6, fz, hr1⟩
      obtain ⟨z1, z2, z3⟩ := yI j H F6 (fz.trans C6.st.sub) fz C6.st.sub
      by_cases hlt1 : j < ds1.length
      · have hdr1 : ds1.drop j = ds1[j] :: ds1.drop (j + 1) := List.drop_eq_getElem_cons hlt1
        rw [hdr1] at hr1
        obtain ⟨ρ3, b3, k1, k2, k3⟩ := compL_step hr1
        refine .inr ⟨z1 hlt1, fun H => ∃ rest1 F acc accD, CSt K H0 F0 H1 F1 σ ρ Dd r (rest1 ++ rest') H F acc accD ∧ St K H0 F0 H F σ2 ρ1 ∧ Same F5 F ∧ compL tf1 t1 f (wipeR ρ1 vs1) (ds1.drop (j + 1)) = some rest1, fun H' w => ⟨_, by omega, rfl, hlt1, w⟩, fun x1 H7 yy1 => ?_⟩
        obtain ⟨F7, e7, r7⟩ := z3 x1 H7 ds1[j] (by simp [hlt1]) yy1
        refine htg1.run H0 F0 F7 H7 _ _ ρ3 x1 _ _ ((S6.ext e7).wipe _) r7 k1 fun σ3 S7 hw3 _ => ⟨by rw [hw3]; exact wipe_twice _ _, ?_⟩
        refine ⟨H0, F0, F7, ρ3, b3, S7, k2, fun H8 F8 e8 => ?_⟩
        rcases k3 with ⟨rfl, zv, rest1', k4, k5, rfl⟩ | ⟨rfl, k5⟩
        · refine iteT ⟨H0, F0, F8, ρ3, zv, S7.ext e8, k4, fun H9 F9 v e9 r9 => ?_⟩
          have C9 := ((C6.ext e7).ext e8).ext e9
          refine ⟨acc6, C9.hd, ?_, rest1', F9, _, _, C9.push hD h0 no r9, (((S6.ext e7).ext e8).ext e9).aside C9.fd h0 own2, ((fz.trans e7.f).trans e8.f).trans e9.f, k5⟩
          have hl := C9.rep.length
          have he := congrArg List.length C9.eq
          rw [List.length_append, List.cons_append, List.length_cons] at he
          omega
        · exact iteF ⟨rest1, F8, acc6, accD6, (C6.ext e7).ext e8, (S6.ext e7).ext e8, (fz.trans e7.f).trans e8.f, k5⟩
      · have e : ds1.drop j = [] := List.drop_eq_nil_of_le (by omega)
        rw [e] at hr1
        cases hr1
        exact .inl ⟨z2 (by omega), rest', F6, acc6, accD6, C6, g6⟩
    · exact iteF ⟨rest, F4, acc, accD, C3.ext e4, g5⟩
  · have e : ds.drop i = [] := List.drop_eq_nil_of_le (by omega)
    rw [e] at hr
    cases hr
    refine .inl ⟨y2 (by omega), q H F2 Dd (.lst acc) ⟨e1.h.trans C.h, e1.f.trans C.f, C.st.sub, fun a o h => ?_⟩ C.fd (e1.h.free hD) C.hd ?_⟩
    · rcases C.nw a o h with h | h
      · exact e1.new a o h
      · exact .inr (e1.h.free h)
    · have : r = accD := by rw [C.eq, List.append_nil]
      rw [this]; exact C.rep
theorem f_lc2 (hc : X.calm = true) (hN : X.N.Nodup) (hi : IX X tg iter true src) (ok : BlkOk X.N X.env.scope scope own) (hv : ∀ i ∈ vs1, i ∈ own.map (·.2))
    (hg : ∀ (s : Shared) (H : Hp) (C : Addr) (cl : List (Str × Addr)) (fp : List Addr), PG (X.blk s H scope (compEnvC scope cl C X.env) fp) tg g) (htg : TgOk X.K (own.map (·.2)) g tf)
    (ht : ∀ (s : Shared) (H : Hp) (C : Addr) (cl : List (Str × Addr)) (fp : List Addr), PIf (X.blk s H scope (compEnvC scope cl C X.env) fp) ifs t)
    (hi1 : ∀ (s : Shared) (H : Hp) (C : Addr) (cl : List (Str × Addr)) (fp : List Addr), IX (X.blk s H scope (compEnvC scope cl C X.env) fp) tg1 iter1 false src1)
    (hg1 : ∀ (s : Shared) (H : Hp) (C : Addr) (cl : List (Str × Addr)) (fp : List Addr), PG (X.blk s H scope (compEnvC scope cl C X.env) fp) tg1 g1) (htg1 : TgOk X.K vs1 g1 tf1)
    (ht1 : ∀ (s : Shared) (H : Hp) (C : Addr) (cl : List (Str × Addr)) (fp : List Addr), PIf (X.blk s H scope (compEnvC scope cl C X.env) fp) ifs1 t1)
    (he : ∀ (s : Shared) (H : Hp) (C : Addr) (cl : List (Str × Addr)) (fp : List Addr), PX (X.blk s H scope (compEnvC scope cl C X.env) fp) elt f)
    (hs : ∀ x, foldedSetIterable iter X.env x = pure x := by intro _; rfl) (hs1 : ∀ env x, foldedSetIterable iter1 env x = pure x := by intro _ _; rfl) :
    PF X (.ListComp elt [⟨tg, iter, ifs, 0⟩, ⟨tg1, iter1, ifs1, 0⟩] scope pos) (fLc2 (own.map (·.2)) src tf t vs1 src1 tf1 t1 f) := peImp (pe_lc2 (tt := tTs X.K t) (te := tX X.K f) (tt1 := tTs X.K t1) (wi1 := tI X.K false src1) hc hN hi ok hv hg ht hi1 hg1 ht1 he hs hs1) (lc2_go htg htg1)
theorem x_lc2 (hc : X.calm = true) (hN : X.N.Nodup) (hi : IX X tg iter true src) (ok : BlkOk X.N X.env.scope scope own) (hv : ∀ i ∈ vs1, i ∈ own.map (·.2))
    (hg : ∀ (s : Shared) (H : Hp) (C : Addr) (cl : List (Str × Addr)) (fp : List Addr), PG (X.blk s H scope (compEnvC scope cl C X.env) fp) tg g) (htg : TgOk X.K (own.map (·.2)) g tf)
    (ht : ∀ (s : Shared) (H : Hp) (C : Addr) (cl : List (Str × Addr)) (fp : List Addr), PIf (X.blk s H scope (compEnvC scope cl C X.env) fp) ifs t)
    (hi1 : ∀ (s : Shared) (H : Hp) (C : Addr) (cl : List (Str × Addr)) (fp : List Addr), IX (X.blk s H scope (compEnvC scope cl C X.env) fp) tg1 iter1 false src1)
    (hg1 : ∀ (s : Shared) (H : Hp) (C : Addr) (cl : List (Str × Addr)) (fp : List Addr), PG (X.blk s H scope (compEnvC scope cl C X.env) fp) tg1 g1) (htg1 : TgOk X.K vs1 g1 tf1)
    (ht1 : ∀ (s : Shared) (H : Hp) (C : Addr) (cl : List (Str × Addr)) (fp : List Addr), PIf (X.blk s H scope (compEnvC scope cl C X.env) fp) ifs1 t1)
    (he : ∀ (s : Shared) (H : Hp) (C : Addr) (cl : List (Str × Addr)) (fp : List Addr), PX (X.blk s H scope (compEnvC scope cl C X.env) fp) elt f)
    (hs : ∀ x, foldedSetIterable iter X.env x = pure x := by intro _; rfl) (hs1 : ∀ env x, foldedSetIterable iter1 env x = pure x := by intro _ _; rfl) :
    PX X (.ListComp elt [⟨tg, iter, ifs, 0⟩, ⟨tg1, iter1, ifs1, 0⟩] scope pos) (fLc2 (own.map (·.2)) src tf t vs1 src1 tf1 t1 f) := (f_lc2 hc hN hi ok hv hg htg ht hi1 hg1 htg1 ht1 he hs hs1).toX
theorem fLc2_list {vs vs1 : List Nat} : ∀ ρ d, fLc2 vs src tf t vs1 src1 tf1 t1 f ρ = some d → ∃ ds, d = .list ds := fun ρ d h => by
  obtain ⟨ds, _, h2⟩ := Option.bind_eq_some_iff.mp h
  obtain ⟨r, _, h4⟩ := Option.bind_eq_some_iff.mp h2
  split at h4
  · cases h4; exact ⟨_, rfl⟩
  · cases h4
theorem s_setLc2 {fr : Bool} {i : Nat} {y : Str} {py spos : Pos} (hc : X.calm = true) (hN : X.N.Nodup) (hy : X.N[i]? = some y) (hyl : X.env.scope.names.lookup y = some .local)
    (hsw : swapsWith (.ListComp elt [⟨tg, iter, ifs, 0⟩, ⟨tg1, iter1, ifs1, 0⟩] scope pos) (some (.Name y py)) spos.line X.env = pure true) (hi : IX X tg iter true src) (ok : BlkOk X.N X.env.scope scope own) (hv : ∀ i ∈ vs1, i ∈ own.map (·.2))
    (hg : ∀ (s : Shared) (H : Hp) (C : Addr) (cl : List (Str × Addr)) (fp : List Addr), PG (X.blk s H scope (compEnvC scope cl C X.env) fp) tg g) (htg : TgOk X.K (own.map (·.2)) g tf)
    (ht : ∀ (s : Shared) (H : Hp) (C : Addr) (cl : List (Str × Addr)) (fp : List Addr), PIf (X.blk s H scope (compEnvC scope cl C X.env) fp) ifs t)
    (hi1 : ∀ (s : Shared) (H : Hp) (C : Addr) (cl : List (Str × Addr)) (fp : List Addr), IX (X.blk s H scope (compEnvC scope cl C X.env) fp) tg1 iter1 false src1)
    (hg1 : ∀ (s : Shared) (H : Hp) (C : Addr) (cl : List (Str × Addr)) (fp : List Addr), PG (X.blk s H scope (compEnvC scope cl C X.env) fp) tg1 g1) (htg1 : TgOk X.K vs1 g1 tf1)
    (ht1 : ∀ (s : Shared) (H : Hp) (C : Addr) (cl : List (Str × Addr)) (fp : List Addr), PIf (X.blk s H scope (compEnvC scope cl C X.env) fp) ifs1 t1)
    (he : ∀ (s : Shared) (H : Hp) (C : Addr) (cl : List (Str × Addr)) (fp : List Addr), PX (X.blk s H scope (compEnvC scope cl C X.env) fp) elt f)
    (hs : ∀ x, foldedSetIterable iter X.env x = pure x := by intro _; rfl) (hs1 : ∀ env x, foldedSetIterable iter1 env x = pure x := by intro _ _; rfl) :
    SX X fr (.Assign [.Name y py] (.ListComp elt [⟨tg, iter, ifs, 0⟩, ⟨tg1, iter1, ifs1, 0⟩] scope pos) spos) (gSet i (fLc2 (own.map (·.2)) src tf t vs1 src1 tf1 t1 f)) := psImp (ps_setLc2 (tt := tTs X.K t) (te := tX X.K f) (tt1 := tTs X.K t1) (wi1 := tI X.K false src1) hc hN hy hyl hsw hi ok hv hg ht hi1 hg1 ht1 he hs hs1) fun E σ H ⟨H0, F0, F, ρ, o, S, hd, q⟩ => by
  obtain ⟨d, h1, rfl⟩ := Option.map_eq_some_iff.mp hd
  exact lc2_go htg htg1 σ H _ (toF fLc2_list σ H _ ⟨H0, F0, F, ρ, d, S, h1, fun H1 F1 v e1 r1 => q _ H1 F1 ((S.ext e1).set i r1) e1.f⟩)
end

/-! ### ghosts at a block's end -/
theorem s_frzs {X : Cx} {fr : Bool} {sts : List Stmt} {w : G} (i : Nat) (h : SXs X fr sts w) : SXs X fr sts (gFrz i w) := ⟨fun pins s σ H E I ⟨H0, F0, F, ρ, o, S, hd, q⟩ => by
  unfold gFrz at hd
  cases e : atR ρ i with
  | no => rw [e] at hd; cases hd
  | val d => rw [e] at hd; cases hd
  | bor d => rw [e] at hd; cases hd
  | own d =>
    rw [e] at hd
    obtain ⟨hi, x, hσ, p, ob, rfl, f0, h0, hp, r⟩ := S.at e (by simp)
    obtain ⟨u, I2, g1, g2, r2⟩ := frozen I S.sub hp f0 r
    exact h.run pins s σ _ E I2 ⟨H0, F0, _, _, o, S.freeze hi hσ g1 g2 r2, hd, nxMono g1 q⟩⟩

/-! ### x[i] = e of a list or a dict of the slot's own -/
theorem psOr {X : Cx} {st : Stmt} {t t' : TS} (h : PS X st t) (h' : PS X st t') : PS X st (fun E σ H => t E σ H ∨ t' E σ H) := ⟨fun pins s σ H E I q => by
  rcases q with q | q
  · exact h.run pins s σ H E I q
  · exact h'.run pins s σ H E I q⟩
def gPut (i : Nat) (k v : F1) : G := fun ρ => (v ρ).bind fun y => (k ρ).bind fun x => match atR ρ i, x with
  | .own (.list ds), .int n => (ixN ds.length n).map fun j => .nx (ρ.set i (.own (.list (ds.set j y))))
  | .own (.dict kvs), x => if keyOk x && notT kvs && decide (kvs.length < sizeLine) then some (.nx (ρ.set i (.own (.dict (putK kvs x y))))) else none
  | _, _ => none
section
variable {K : PySem.W.Frag} {F : Hp}
theorem RepK.append : ∀ {a b : List (L2.Key × V)} {c d : List (D × D)}, RepK K F a c → RepK K F b d → RepK K F (a ++ b) (c ++ d)
  | _, _, _, _, .nil, h => h
  | _, _, _, _, .cons x y r, h => .cons x y (RepK.append r h)
theorem RepK.map {k : L2.Key} {v : V} {d : D} (r : Rep K F v d) : ∀ {kvs : List (L2.Key × V)} {ds : List (D × D)}, RepK K F kvs ds → RepK K F (kvs.map fun kv => if kv.1 = k then (kv.1, v) else kv) (ds.map fun kv => if PyData.eqv kv.1 (keyD k) then (kv.1, d) else kv)
  | _, _, .nil => .nil
  | _, _, .cons (k := k') x y rr => by
    rw [List.map_cons, List.map_cons]
    by_cases e : k' = k
    · subst e
      simp only [eqv_keyD, decide_true, if_true]
      exact .cons x r (RepK.map r rr)
    · simp only [eqv_keyD, e, decide_false, if_false, Bool.false_eq_true]
      exact .cons x y (RepK.map r rr)
theorem RepK.put {k : L2.Key} {v : V} {d : D} {kvs : List (L2.Key × V)} {ds : List (D × D)} (rr : RepK K F kvs ds) (rk : Rep K F (kV k) (keyD k)) (r : Rep K F v d) : RepK K F (L2.putK kvs k v) (putK ds (keyD k) d) := by
  unfold L2.putK putK
  rw [valV_any, (rr.look (k := k)).2.2]
  split
  · exact rr.map r
  · exact rr.append (.cons rk r .nil)
end
section
variable {X : Cx} {fr : Bool} {e k : Expr} {f h : F1} {pos p1 p2 : Pos}
theorem s_put (hu : X.A.units + 64 < cLine) (i : Nat) {x : Str} (hk : PX X k h) (he : PX X e f) (hN : X.N[i]? = some x := by rfl) (hv : Vis X.env.scope x := by first | exact Or.inl rfl | exact Or.inr (Or.inl rfl) | exact Or.inr (Or.inr rfl)) (hd : (x == ("__debug__" : Str)) = false := by decide)
    (hcd : (x == ("__classdict__" : Str)) = false := by decide) (hs : swapsWith e (some (.Subscript (.Name x p1) k p2)) pos.line X.env = pure false := by rfl) (hs2 : swapsWithSole [.Subscript (.Name x p1) k p2] e pos.line X.env = pure false := by rfl)
    (hw : swappedStores [.Subscript (.Name x p1) k p2] e X.env = pure none := by rfl) (h1 : (assignEach [.Subscript (.Name x p1) k p2] X.env).map (·.2) = [assign (.Subscript (.Name x p1) k p2) X.env] := by rfl)
    (ha : ∀ v, assign (.Subscript (.Name x p1) k p2) X.env v = (do
      let ov ← holding [v] (eval (.Name x p1) X.env)
      let iv ← holding [v, ov] (eval k X.env)
      standAt p2
      holding [v, ov, iv] (setItem ov iv v)
      release [v, ov, iv] []) := by intro _; rfl) : SX X fr (.Assign [.Subscript (.Name x p1) k p2] e pos) (gPut i h f) :=
  psImp (psOr (ps_asg he (pg_sub (pv i hN hv hd hcd) hk set_list ha) hs2 hw h1) (ps_dput (by omega) (pv i hN hv hd hcd) hk he hs)) fun D σ H ⟨H0, F0, F, ρ, o, S, hd, q⟩ => by
  obtain ⟨y, hy, h2⟩ := Option.bind_eq_some_iff.mp hd
  obtain ⟨z, hz, h3⟩ := Option.bind_eq_some_iff.mp h2
  cases e : atR ρ i with
  | no => rw [e] at h3; cases z <;> cases h3
  | val d => rw [e] at h3; cases z <;> cases h3
  | bor d => rw [e] at h3; cases z <;> cases h3
  | own d =>
    rw [e] at h3
    obtain ⟨hi, w, hσ, p, ob, rfl, f0, h0, hp, r⟩ := S.at e (by simp)
    split at h3
    · rename_i ds n e'
      cases e'
      obtain ⟨j, h4, rfl⟩ := Option.map_eq_some_iff.mp h3
      refine .inl ⟨H0, F0, F, ρ, y, S, hy, fun H1 F1 v e1 r1 => ⟨_, hσ, H0, F0, F1, ρ, _, S.ext e1, hz, fun H2 F2 kv e2 r2 => ?_⟩⟩
      cases r2
      unfold RepO at r
      split at r
      · rename_i xs ds' e''
        cases e''
        refine ⟨p, xs, n, j, rfl, rfl, e2.h _ _ (e1.h _ _ hp), by rw [r.length]; exact h4, ?_⟩
        exact q σ _ F2 (((S.ext e1).ext e2).change (o' := .lst (xs.set j v)) hi hσ ((r.mono (e1.f.trans e2.f)).set j (r1.mono e2.f))) (e1.f.trans e2.f)
      · rename_i z; cases z
      · rename_i z; cases z
      · exact r.elim
    · rename_i kvs x' e'
      cases e'
      split at h3
      · rename_i hc
        cases h3
        simp only [Bool.and_eq_true, decide_eq_true_eq] at hc
        refine .inr ⟨H0, F0, F, ρ, y, S, hy, fun H1 F1 v e1 r1 => ⟨_, hσ, H0, F0, F1, ρ, _, S.ext e1, hz, fun H2 F2 kv e2 r2 => ?_⟩⟩
        unfold RepO at r
        split at r
        · rename_i z; cases z
        · rename_i ks ds' e''
          cases e''
          obtain ⟨kk, rfl, rfl⟩ := rep_key r2 hc.1.1
          have r' := r.mono (e1.f.trans e2.f)
          refine ⟨p, _, rfl, .inl ⟨ks, kk, e2.h _ _ (e1.h _ _ hp), rfl, by rw [r.length]; exact hc.2, rfl⟩, ?_⟩
          exact q σ _ F2 (((S.ext e1).ext e2).change (o' := .dK (L2.putK ks kk v)) hi hσ (r'.put r2 (r1.mono e2.f))) (e1.f.trans e2.f)
        · rename_i z
          cases z
          exact absurd (show false = true from hc.1.2) Bool.false_ne_true
        · exact r.elim
      · cases h3
    · cases h3
/-- x.append((y.pop(k), e)) -/
def gAppPop (i j : Nat) (k v : F1) : G := fun ρ => (k ρ).bind fun n => match atR ρ i, atR ρ j, n with
  | .own (.list ds), .own (.list es), .int n => if decide (0 ≤ n) && decide (n < es.length) && decide (ds.length < sizeLine) && decide (es.length < sizeLine) && decide (i ≠ j) then
      (v (ρ.set j (.own (.list (es.eraseIdx n.toNat))))).bind fun y => (es[n.toNat]?).map fun x => .nx ((ρ.set j (.own (.list (es.eraseIdx n.toNat)))).set i (.own (.list (ds ++ [.tuple [x, y]])))) else none
  | _, _, _ => none
theorem seqIx {n : Int} {m : Nat} (h0 : 0 ≤ n) (h1 : n < m) : seqIndex? n m = some n.toNat := by
  have := (ixN_seq (n := m) (i := n) (j := n.toNat) (by unfold ixN; rw [if_pos h0, if_pos h1])).1
  exact this
theorem Reps.erase {K : PySem.W.Frag} {F : Hp} : ∀ {xs : List V} {ds : List D} (i : Nat), Reps K F xs ds → Reps K F (xs.eraseIdx i) (ds.eraseIdx i)
  | _, _, _, .nil => .nil
  | _, _, 0, .cons _ r => r
  | _, _, i + 1, .cons a r => .cons a (Reps.erase i r)
theorem s_appPop (i j : Nat) {x y : Str} {kt : Nat} {py p3 pc pt cpos : Pos} (hk : PB X k h) (he : PX X e f) (hN : X.N[i]? = some x := by rfl) (hv : Vis X.env.scope x := by first | exact Or.inl rfl | exact Or.inr (Or.inl rfl) | exact Or.inr (Or.inr rfl)) (hd : (x == ("__debug__" : Str)) = false := by decide) (hcd : (x == ("__classdict__" : Str)) = false := by decide)
    (hN2 : X.N[j]? = some y := by rfl) (hv2 : Vis X.env.scope y := by first | exact Or.inl rfl | exact Or.inr (Or.inl rfl) | exact Or.inr (Or.inr rfl)) (hd2 : (y == ("__debug__" : Str)) = false := by decide) (hcd2 : (y == ("__classdict__" : Str)) = false := by decide)
    (hbase : attributeBase (.Name x p1) "append" X.env (eval (.Name x p1) X.env) = eval (.Name x p1) X.env := by rfl) (hbase2 : attributeBase (.Name y py) "pop" X.env (eval (.Name y py) X.env) = eval (.Name y py) X.env := by rfl)
    (hfew2 : ((backTo pc (starEach [k] X.env)).all (fun x => !x.1) && (backToKw pc (keywordEach [] X.env)).all (fun x => x.1.isSome) && decide (([k] : List Expr).length + ([] : List Keyword).length + (if ([] : List Keyword).isEmpty then 0 else 1) < 30)) = true := by rfl)
    (hline2 : (p3.endLine == pc.line) = true := by rfl) (g1 : starEach [k] X.env = (false, eval k X.env) :: starEach [] X.env := by rfl)
    (g2 : starEach [.Call (.Attribute (.Name y py) "pop" p3) [k] [] pc, e] X.env = (false, eval (.Call (.Attribute (.Name y py) "pop" p3) [k] [] pc) X.env) :: starEach [e] X.env := by rfl) (g3 : starEach [e] X.env = (false, eval e X.env) :: starEach [] X.env := by rfl)
    (hfew : ((backTo cpos (starEach [.Tuple [.Call (.Attribute (.Name y py) "pop" p3) [k] [] pc, e] kt pt] X.env)).all (fun x => !x.1) && (backToKw cpos (keywordEach [] X.env)).all (fun x => x.1.isSome) && decide (([.Tuple [.Call (.Attribute (.Name y py) "pop" p3) [k] [] pc, e] kt pt] : List Expr).length + ([] : List Keyword).length + (if ([] : List Keyword).isEmpty then 0 else 1) < 30)) = true := by rfl)
    (hline : (p2.endLine == cpos.line) = true := by rfl) (g4 : starEach [.Tuple [.Call (.Attribute (.Name y py) "pop" p3) [k] [] pc, e] kt pt] X.env = (false, eval (.Tuple [.Call (.Attribute (.Name y py) "pop" p3) [k] [] pc, e] kt pt) X.env) :: starEach [] X.env := by rfl)
    (hs : swapsWith (.Call (.Attribute (.Name x p1) "append" p2) [.Tuple [.Call (.Attribute (.Name y py) "pop" p3) [k] [] pc, e] kt pt] [] cpos) none pos.line X.env = pure false := by rfl) :
    SX X fr (.Expr (.Call (.Attribute (.Name x p1) "append" p2) [.Tuple [.Call (.Attribute (.Name y py) "pop" p3) [k] [] pc, e] kt pt] [] cpos) pos) (gAppPop i j h f) :=
  psImp (ps_expr (pe_bm PySem.F.plainAttrs_list PySem.F.slot_list_append PySem.F.type_list_append mt_append (pv i hN hv hd hcd) (pa_cons (pe_tup (pa_cons (pe_bm PySem.F.plainAttrs_list PySem.F.slot_list_pop PySem.F.type_list_pop mt_popAt (pv j hN2 hv2 hd2 hcd2) (pa_cons hk pa_nil g1) hbase2 hfew2 hline2 g1) (pa_cons he pa_nil g3) g2)) pa_nil g4) hbase hfew hline g4) hs) fun D σ H ⟨H0, F0, F, ρ, o, S, hd, q⟩ => by
  obtain ⟨nv, hn, h2⟩ := Option.bind_eq_some_iff.mp hd
  split at h2
  · rename_i _ ds es n ei ej
    split at h2
    · rename_i hc
      simp only [Bool.and_eq_true, decide_eq_true_eq] at hc
      obtain ⟨⟨⟨⟨c0, c1⟩, c2⟩, c4⟩, c3⟩ := hc
      obtain ⟨yv, h3, h4⟩ := Option.bind_eq_some_iff.mp h2
      obtain ⟨xv, h5, rfl⟩ := Option.map_eq_some_iff.mp h4
      obtain ⟨ri, wi, σi, p, ob, rfl, fi, hi0, hpi, rp⟩ := S.at ei (by simp)
      obtain ⟨rj, wj, σj, q', ob', rfl, fj, hj0, hpj, rq⟩ := S.at ej (by simp)
      have npq : p ≠ q' := fun z => by
        subst z
        exact S.dj i j _ _ p c3 ri rj σi σj
      unfold RepO at rp rq
      split at rp
      case h_2 => rename_i z; cases z
      case h_3 => rename_i z; cases z
      case h_4 => exact rp.elim
      rename_i xs ds' e'
      cases e'
      split at rq
      case h_2 => rename_i z; cases z
      case h_3 => rename_i z; cases z
      case h_4 => exact rq.elim
      rename_i ys es' e'
      cases e'
      refine ⟨_, σi, .inl ⟨rfl, _, .of hpi⟩, _, σj, .inl ⟨rfl, _, .of hpj⟩, H0, F0, F, ρ, _, S, hn, fun H1 F1 kv e1 r1 => ?_⟩
      cases r1.int
      have rq1 := rq.mono e1.f
      obtain ⟨xw, h6, rx⟩ := rq1.get h5
      have S1 := S.ext e1
      have S2 := S1.change (o' := .lst (ys.eraseIdx n.toNat)) (d' := .list (es.eraseIdx n.toNat)) rj σj (rq1.erase n.toNat)
      refine ⟨q', ys, n, n.toNat, xw, rfl, rfl, e1.h _ _ hpj, ?_, ?_, ?_, h6, ?_⟩
      · omega
      · rw [sizeLine_eq] at c4
        omega
      · rw [rq.length]; exact seqIx c0 c1
      · refine ⟨H0, F0, F1, _, yv, S2, h3, fun H2 F2 yw e2 r2 => ⟨by show 2 ≤ sizeLine; rw [sizeLine_eq]; omega, fun t ht => ?_⟩⟩
        have rx2 := rx.mono e2.f
        have e3 := Ext.laid e2.sub (.tup [xw, yw]) ht
        have S3 := (S2.ext e2).ext e3
        have hp3 : (upd H2 t (.tup [xw, yw])) p = some (.lst xs) := by
          refine e3.h _ _ (e2.h _ _ ?_)
          rw [upd_ne npq]
          exact e1.h _ _ hpi
        refine ⟨p, xs, .ref t, rfl, rfl, hp3, by rw [rp.length]; exact c2, ?_⟩
        have ri3 : (ρ.set j (.own (.list (es.eraseIdx n.toNat))))[i]? = some (.own (.list ds)) := by
          rw [List.getElem?_set_ne (Ne.symm c3)]; exact ri
        have rt : Rep X.K (upd F2 t (.tup [xw, yw])) (.ref t) (.tuple [xv, yv]) := .tup upd_same (.cons (rx2.mono e3.f) (.cons (r2.mono e3.f) .nil))
        have rp3 : RepO X.K (upd F2 t (.tup [xw, yw])) (.lst (xs ++ [.ref t])) (.list (ds ++ [.tuple [xv, yv]])) := ((((rp.mono e1.f).mono e2.f).mono e3.f)).snoc rt
        exact q σ _ _ (S3.change (o' := .lst (xs ++ [.ref t])) ri3 σi rp3) ((e1.f.trans e2.f).trans e3.f)
    · cases h2
  · cases h2
end
end Pu
set_option maxRecDepth 100000
/-! Defs of the text, their promises, the law's end. -/
namespace Pu
open PySem PySem.Spec PyProof.Rows L2

theorem hr65 {k : Nat} {A : Around} (hr : Room k A) : A.units + 64 + 1 < cLine := by
  have := hr.un
  omega
/-- no built-in that the text calls is a name of the module -/
structure Bi (mg : Str → Option Value) : Prop where
  len : mg "len" = none
  isinstance : mg "isinstance" = none
  int : mg "int" = none
  bool : mg "bool" = none
  str : mg "str" = none
  tuple : mg "tuple" = none
  list : mg "list" = none
  sum : mg "sum" = none
  max : mg "max" = none
  min : mg "min" = none
  all : mg "all" = none
  any : mg "any" = none
  sorted : mg "sorted" = none
  range : mg "range" = none
  enumerate : mg "enumerate" = none
  zip : mg "zip" = none
  set : mg "set" = none
  dict : mg "dict" = none
/-- the def st stands in the module by the name x -/
def Df (K : PySem.W.Frag) (mg : Str → Option Value) (x : Str) (st : Stmt) (ps : List Str) : Prop := ∃ (f : Addr) (fd : FuncData), L2.Fun K x x st f fd ∧ mg x = some (.ref f) ∧ Binds K fd ps []
/-- it keeps its promise at level k -/
def Ok (P : Program) (w : World) (K : PySem.W.Frag) (mg : Str → Option Value) (base : Heap) (x : Str) (k : Nat) (ps : List Str) (fr : Bool) (ms : List Bool) (m : Fn) : Prop :=
  ∃ (f : Addr) (fd : FuncData), mg x = some (.ref f) ∧ PySem.W.keepIn K (.ref f) = true ∧ Binds K fd ps [] ∧ FnOk P w K mg base CX0 k f fd ps (spQ K fr ms m)
section
variable {P : Program} {w : World} {K : PySem.W.Frag} {mg : Str → Option Value} {base : Heap} {x : Str} {st : Stmt} {N ps : List Str} {j k : Nat} {fr : Bool} {ms : List Bool} {m : Fn} {g : G}
theorem Ok.mono (o : Ok P w K mg base x j ps fr ms m) (h : j ≤ k) : Ok P w K mg base x k ps fr ms m := by
  obtain ⟨f, fd, h1, h2, h3, h4⟩ := o
  exact ⟨f, fd, h1, h2, h3, h4.mono h⟩
/-- a def's promise by its body's walk -/
theorem ok_of (D : Df K mg x st ps) (S : FnScope N ps (defScope st)) (hl : ms.length = ps.length)
    (hb : ∀ (f : Addr) (cdv : Value) (A : Around) (outer : List Env) (s : Shared) (H : Hp) (E : XK), Room k (A.deeper (envOfC x (defScope st) s.heap.objs.size f cdv)) → SXs (cxOf CX0 P w K mg base N x (defScope st) f cdv A outer s H E).nox fr (defBody st) g) :
    Ok P w K mg base x (k + 1) ps fr ms (runQ fr N.length ms g) := by
  obtain ⟨f, fd, Fu, hm, b⟩ := D
  exact ⟨f, fd, hm, Fu.kp, b, fn_ok Fu S hl rfl (hb f)⟩
theorem ok_none (D : Df K mg x st ps) : Ok P w K mg base x k ps fr ms fun _ => none := by
  obtain ⟨f, fd, Fu, hm, b⟩ := D
  exact ⟨f, fd, hm, Fu.kp, b, fn_none⟩
end
section
variable {X : Cx} {k : Nat} {ps : List Str} {ms : List Bool} {m : Fn} {x : Str} {p pos : Pos} {e : Expr} {es : List Expr} {fs : List F1}
theorem o_call (O : Ok X.prog X.w X.K X.mg X.base x k ps false ms m) (hr : Room k X.A) (hg : Gl X x) (ha : PAr X (e :: es) ms (fArgs fs))
    (hdb : (x == ("__debug__" : Str)) = false := by decide) (h1 : starEach (e :: es) X.env = (false, eval e X.env) :: starEach es X.env := by rfl) (hpl : (backTo pos (starEach es X.env)).any (·.1) = false := by rfl) :
    PX X (.Call (.Name x p) (e :: es) [] pos) (fCall m fs) := by
  obtain ⟨f, fd, hm, kp, b, G⟩ := O
  exact c_call G hr hg hm kp b ha hdb h1 hpl
theorem o_callF (O : Ok X.prog X.w X.K X.mg X.base x k ps true ms m) (hr : Room k X.A) (hg : Gl X x) (ha : PAr X (e :: es) ms (fArgs fs))
    (hdb : (x == ("__debug__" : Str)) = false := by decide) (h1 : starEach (e :: es) X.env = (false, eval e X.env) :: starEach es X.env := by rfl) (hpl : (backTo pos (starEach es X.env)).any (·.1) = false := by rfl) :
    PF X (.Call (.Name x p) (e :: es) [] pos) (fCall m fs) := by
  obtain ⟨f, fd, hm, kp, b, G⟩ := O
  exact c_callF G hr hg hm kp b ha hdb h1 hpl
end
/-- from what the top has left -/
theorem df_mk {K : PySem.W.Frag} {h : Heap} {mg : Str → Option Value} {x : Str} {st : Stmt} {ps : List Str} {f : Addr} {oc : Value} {od an : Option Addr} {osl : Array (Option Value)} {kV doc pm cdv ct : Value} (X : K.In h) (G : h.Ns mainGlobals mg)
    (b : ∀ (kV doc pm : Value) (an : Option Addr) (cdv ct : Value) (us : List Value), us.length = ps.length → bindArgs (PySem.W.fnOf x x (defArgs st) (defBody st) (defScope st) .none kV doc pm an cdv ct) ⟨us, []⟩ = pure (ps.zip us))
    (a : PySem.W.nsIn K mainGlobals x = some (some (.ref f))) (l : K.lookup f = some ⟨oc, od, .func (PySem.W.fnOf x x (defArgs st) (defBody st) (defScope st) .none kV doc pm an cdv ct), osl⟩)
    (c : PySem.W.codeIn K cdv x = true) (k : PySem.W.keepIn K (.ref f) = true) : Df K mg x st ps :=
  have F := fun_mk l c k
  ⟨f, _, F, PySem.W.mg_of X G a, F.binds b⟩
/-- the law's def, at the address that the caller takes -/
theorem law_mk {l : PySem.W.OpenLaw} {w : World} {K : PySem.W.Frag} {h : Heap} {mg : Str → Option Value} {fa : Addr} {L : Nat} {m : Fn} (hfa : mg "law" = some (.ref fa)) {st : Stmt} (D : Df K mg "law" st ["script"])
    (hb : ∀ fd : FuncData, Binds K fd ["script"] [] → L2.Fun K "law" "law" st fa fd → ∀ (s : Shared) (v : Value), BindsTo s fd ⟨[v], []⟩ [("script", v)])
    (O : ∀ base : Heap, K.In base → base.Ns mainGlobals mg → Ok l.prog w K mg base "law" L ["script"] false [false] m)
    (one : ∀ base f fd, mg "law" = some (.ref f) → L2.Fun K "law" "law" st f fd → Ok l.prog w K mg base "law" L ["script"] false [false] m → FnOk l.prog w K mg base CX0 L f fd ["script"] (spQ K false [false] m)) :
    ∃ fd : FuncData, (∀ (s : Shared) (v : Value), BindsTo s fd ⟨[v], []⟩ [("script", v)]) ∧ ∀ base : Heap, K.In base → base.Ns mainGlobals mg → FnOk l.prog w K mg base CX0 L fa fd ["script"] (spQ K false [false] m) := by
  obtain ⟨f, fd, Fu, hm, b⟩ := D
  have e := hfa.symm.trans hm
  cases e
  exact ⟨fd, hb fd b Fu, fun base h1 h2 => one base fa fd hm Fu (O base h1 h2)⟩
/-- the law's promise where its mirror says True of every script -/
theorem law_sp {K : PySem.W.Frag} {H : Hp} {a : Addr} {ns : List Int} {m : Fn} (hS : SqL K H a (ns.map V.int)) (hm : m [.list (ns.map .int)] = some (.bool true)) : spQ K false [false] m [.ref a] H (fun v _ => v = .bl true) fun _ _ _ => False := by
  refine ⟨H, [.list (ns.map .int)], .bool true, Same.refl H, .val (.lst hS reps_ints) .nil, hm, fun H' F' v e r => ?_⟩
  cases r
  rfl
end Pu
set_option maxRecDepth 100000
/-! More combinators: sorting, dicts, changes. -/
namespace Pu
open PySem
/-! ### sorted -/
def alikeAllB (ds : List D) : Bool := ds.all fun d => ds.all fun e => PySem.W.alike d e
def tup1 : D → Bool
  | .tuple (_ :: _) => true
  | _ => false
def plain1 : D → Bool
  | .none => false
  | .tuple _ => false
  | _ => true
def sortOk (ds : List D) : Bool := alikeAllB ds && (ds.all tup1 || ds.all plain1) && noDicts ds && decide (PyData.depthAll ds ≤ 50) && fitsL ds.length
def sortL (ds : List D) : List D := ds.mergeSort (PySem.W.dataLe false id)
def sort1 (ds : List D) : Option D := if sortOk ds then some (.list (sortL ds)) else none
def sortD : D → Option D
  | .list ds => sort1 ds
  | .tuple ds => sort1 ds
  | .dict kvs => if notT kvs then sort1 (kvs.map (·.1)) else none
  | _ => none
/-- sorted(set(xs)) -/
def sortSetD : D → Option D
  | .list ds => if ds.all keyOk && decide (ds.length < 4000) then sort1 (metD ds) else none
  | .tuple ds => if ds.all keyOk && decide (ds.length < 4000) then sort1 (metD ds) else none
  | _ => none
/-- sorted(d.items()) -/
def sortItemsD : D → Option D
  | .dict kvs => if notT kvs then sort1 (kvs.map fun kv => .tuple [kv.1, kv.2]) else none
  | _ => none
/-! ### dicts -/
def fDict1 (k v : F1) : F1 := fun ρ => (k ρ).bind fun x => (v ρ).bind fun y => if keyOk x then some (.dict [(x, y)]) else none
def fGet (o k v : F1) : F1 := fun ρ => (o ρ).bind fun d => (k ρ).bind fun x => (v ρ).bind fun y => match d with
  | .dict kvs => if keyOk x && notT kvs then some ((getK kvs x).getD y) else none
  | _ => none
/-- dict(d), dict(rows of two) -/
def pairsL : List D → Option (List (D × D))
  | [] => some []
  | .tuple [k, v] :: r => if keyOk k then (pairsL r).map ((k, v) :: ·) else none
  | _ :: _ => none
def dictD : D → Option D
  | .dict kvs => if notT kvs then some (.dict kvs) else none
  | .list ds => (pairsL ds).map fun kvs => .dict (mergeK [] kvs)
  | _ => none
/-- {k: v for ..} -/
def dcL (tg : TgF) (k v : F1) (ρ : Rho) : List D → List (D × D) → Option (List (D × D))
  | [], acc => some acc
  | d :: ds, acc => (tg d ρ).bind fun ρ1 => (k ρ1).bind fun x => (v ρ1).bind fun y => if keyOk x then dcL tg k v ρ ds (putK acc x y) else none
def fDc (vs : List Nat) (src : FA) (tg : TgF) (k v : F1) : F1 := fun ρ => (src ρ).bind fun ds => (dcL tg k v (wipeR ρ vs) ds []).bind fun r => if fitsL r.length then some (.dict r) else none
def gUpd (i : Nat) (f : F1) : G := fun ρ => (f ρ).bind fun y => match atR ρ i, y with
  | .own (.dict kvs), .dict more => if notT kvs && notT more && decide (kvs.length + more.length < sizeLine) then some (.nx (ρ.set i (.own (.dict (mergeK kvs more))))) else none
  | _, _ => none
/-! ### lists -/
def remL (x : D) : List D → Option (List D)
  | [] => none
  | d :: ds => if PyData.eqv d x then some ds else (remL x ds).map (d :: ·)
def gRem (i : Nat) (f : F1) : G := fun ρ => (f ρ).bind fun y => match atR ρ i, y with
  | .own (.list ds), .str x => if (strsL ds).isSome then (remL (.str x) ds).map fun es => .nx (ρ.set i (.own (.list es))) else none
  | _, _ => none
def gDropApp (f a : F1) : G := fun ρ => (f ρ).bind fun x => (a ρ).bind fun _ => match x with
  | .list ds => if decide (ds.length < sizeLine) then some (.nx ρ) else none
  | _ => none
def countD : D → D → Option D
  | .list ds, x => if noDict x && noDicts ds && decide (x.depth ≤ 60) then some (.int (ds.filter fun z => PyData.eqv z x).length) else none
  | _, _ => none
def max3D : D → D → D → Option D
  | .int i, .int j, .int k => some (.int (max (max i j) k))
  | _, _, _ => none
def tupZipD : D → D → Option D
  | .list xs, .list ys => some (.tuple (zipL xs ys))
  | .tuple xs, .list ys => some (.tuple (zipL xs ys))
  | .list xs, .tuple ys => some (.tuple (zipL xs ys))
  | .tuple xs, .tuple ys => some (.tuple (zipL xs ys))
  | _, _ => none
def catD : D → D → Option D
  | .list a, .list b => if fitsL (a.length + b.length) then some (.list (a ++ b)) else none
  | _, _ => none
def gPutPop (i : Nat) (q : F1) (j : Nat) (k : F1) : G := fun ρ => (k ρ).bind fun n => match atR ρ j, n with
  | .own (.list es), .int n => if decide (0 ≤ n) && decide (n < es.length) && decide (es.length < sizeLine) && decide (i ≠ j) then
      (es[n.toNat]?).bind fun x => (q (ρ.set j (.own (.list (es.eraseIdx n.toNat))))).bind fun y => match atR ρ i with
        | .own (.dict kvs) => if keyOk y && notT kvs && decide (kvs.length < sizeLine) then some (.nx ((ρ.set j (.own (.list (es.eraseIdx n.toNat)))).set i (.own (.dict (putK kvs y x))))) else none
        | _ => none
    else none
  | _, _ => none
/-- zip of two lists, of two tuples -/
def sZipS (a b : F1) : FA := fun ρ => (a ρ).bind fun x => (b ρ).bind fun y => match x, y with
  | .list xs, .list ys => some (zipL xs ys)
  | .tuple xs, .tuple ys => some (zipL xs ys)
  | _, _ => none
end Pu
set_option maxRecDepth 100000
set_option maxHeartbeats 4000000
/-! sorted(..) of lists, tuples. -/
namespace Pu
open PySem PySem.Spec PyProof.Rows L2

theorem alike_of {ds : List D} (h : alikeAllB ds = true) : PySem.W.AllAlike ds := fun d hd e he => List.all_eq_true.mp (List.all_eq_true.mp h d hd) e he
theorem sortable_of {ds : List D} (h : (ds.all tup1 || ds.all plain1) = true) : PySem.W.Sortable ds := by
  rcases Bool.or_eq_true_iff.mp h with h | h
  · refine Or.inl fun d hd => ?_
    have := List.all_eq_true.mp h d hd
    match d, this with
    | .tuple (x :: r), _ => exact ⟨x, r, rfl⟩
  · refine Or.inr fun d hd => ?_
    have := List.all_eq_true.mp h d hd
    cases d with
    | none => cases this
    | tuple _ => cases this
    | bool _ => exact ⟨by simp, by simp⟩
    | int _ => exact ⟨by simp, by simp⟩
    | str _ => exact ⟨by simp, by simp⟩
    | list _ => exact ⟨by simp, by simp⟩
    | dict _ => exact ⟨by simp, by simp⟩
structure SortOk (ds : List D) : Prop where
  al : PySem.W.AllAlike ds
  so : PySem.W.Sortable ds
  nd : noDicts ds = true
  dp : PyData.depthAll ds ≤ 50
  sz : ds.length ≤ sizeLine
theorem sortOk_of {ds : List D} (h : sortOk ds = true) : SortOk ds := by
  unfold sortOk fitsL at h
  simp only [Bool.and_eq_true, decide_eq_true_eq] at h
  exact ⟨alike_of h.1.1.1.1, sortable_of h.1.1.1.2, h.1.1.2, h.1.2, h.2⟩
/-- value stands for datum, place by place -/
abbrev Ea (R : V → D → Prop) (xs : List V) (ds : List D) : Prop := PySem.W.EachIs R xs ds
theorem ea_zip {R : V → D → Prop} : ∀ {xs : List V} {ds : List D}, Ea R xs ds → ∀ p ∈ xs.zip ds, R p.1 p.2
  | _, _, .nil, p, h => by cases h
  | _, _, .cons r t, p, h => by
    rcases List.mem_cons.mp h with rfl | h
    · exact r
    · exact ea_zip t p h
theorem ea_self : ∀ {xs : List V} {ds : List D}, xs.length = ds.length → Ea (fun x d => (x, d) ∈ xs.zip ds) xs ds
  | [], [], _ => .nil
  | x :: xs, d :: ds, h => .cons List.mem_cons_self ((ea_self (xs := xs) (ds := ds) (by simpa using h)).mono fun _ _ m => List.mem_cons_of_mem _ m)
  | [], _ :: _, h => by cases h
  | _ :: _, [], h => by cases h
theorem ea_vals {S : V → D → Prop} : ∀ {xs : List V} {vs : List Value} {ds : List D}, Ea S xs ds → Vals xs vs → PySem.W.EachIs (fun v d => ∃ x, RelV x v ∧ S x d) vs ds
  | _, _, _, .nil, r => by cases r; exact .nil
  | _, _, _, .cons h t, r => by
    cases r with
    | cons a b => exact .cons ⟨_, a, h⟩ (ea_vals t b)
theorem ea_back {S : V → D → Prop} : ∀ {vs : List Value} {ds : List D}, PySem.W.EachIs (fun v d => ∃ x, RelV x v ∧ S x d) vs ds → ∃ xs, Vals xs vs ∧ Ea S xs ds
  | _, _, .nil => ⟨[], .nil, .nil⟩
  | _, _, .cons ⟨x, r, s⟩ t => by
    obtain ⟨xs, a, b⟩ := ea_back t
    exact ⟨x :: xs, .cons r a, .cons s b⟩
theorem reps_ea {K : PySem.W.Frag} {F : Hp} : ∀ {xs : List V} {ds : List D}, Reps K F xs ds → Ea (Rep K F) xs ds
  | _, _, .nil => .nil
  | _, _, .cons r t => .cons r (reps_ea t)
theorem ea_reps {K : PySem.W.Frag} {F : Hp} : ∀ {xs : List V} {ds : List D}, Ea (Rep K F) xs ds → Reps K F xs ds
  | _, _, .nil => .nil
  | _, _, .cons r t => .cons r (ea_reps t)
theorem dp_ea {K : PySem.W.Frag} {H : Hp} : ∀ {xs : List V} {ds : List D}, DpAll K H xs ds → Ea (Dp K H) xs ds
  | _, _, .nil => .nil
  | _, _, .cons r t => .cons r (dp_ea t)
theorem ea_len {R : V → D → Prop} {xs : List V} {ds : List D} (h : Ea R xs ds) : xs.length = ds.length := h.length
/-- what the sorted list holds -/
def SortsTo (xs : List V) (ds : List D) (ys : List V) : Prop := ys.length = xs.length ∧ ∀ R : V → D → Prop, Ea R xs ds → Ea R ys (sortL ds)
theorem sorts_of {xs : List V} {ds : List D} {vs out : List Value} (hv : Vals xs vs) (hl : xs.length = ds.length) (ho : out.length = ds.length) (h : PySem.W.EachIs (fun v d => ∃ x, RelV x v ∧ (x, d) ∈ xs.zip ds) out (sortL ds)) : ∃ ys, Vals ys out ∧ SortsTo xs ds ys := by
  obtain ⟨ys, a, b⟩ := ea_back h
  exact ⟨ys, a, by rw [a.length, ho, hl], fun R e => b.mono fun x d m => ea_zip e _ m⟩
def rSort (K : PySem.W.Frag) (sq : PySem.W.Frag → Hp → Addr → List V → Prop) : List V → Hp → VK → Prop := fun vs H Q => ∃ (a : Addr) (xs : List V) (ds : List D), vs = [V.ref a] ∧ sq K H a xs ∧ DpAll K H xs ds ∧ SortOk ds ∧
  ∀ (ys : List V) (p : Addr), SortsTo xs ds ys → H p = none → Q (.ref p) (upd H p (.lst ys))
section
variable {X : Cx}
theorem reads_of {pins : List (Addr × Obj)} {σ : L2.St} {H : Hp} {s : Shared} (I : Inv X pins σ H s) : ∀ {xs : List V} {vs : List Value} {ds : List D}, DpAll X.K H xs ds → Vals xs vs → PySem.W.EachIs (fun v d => ∃ as, Reads s.heap v d as) vs ds
  | _, _, _, .nil, r => by cases r; exact .nil
  | _, _, _, .cons h t, r => by
    cases r with
    | cons a b => exact .cons (Dp.reads I _ _ _ h a) (reads_of I t b)
theorem depth_le {ds : List D} {n : Nat} (h : PyData.depthAll ds ≤ n) : ∀ d ∈ ds, d.depth ≤ n := by
  induction ds with
  | nil => exact fun d m => by cases m
  | cons a r ih =>
    intro d m
    have h2 : max a.depth (PyData.depthAll r) ≤ n := h
    rcases List.mem_cons.mp m with rfl | m
    · omega
    · exact ih (by omega) d m
theorem cr_sortL (hu : X.A.units + 64 < cLine) : CallR X (.builtin "sorted") (rSort X.K SqL) := by
  intro pins s σ H vs us Q I r h
  obtain ⟨a, xs, ds, rfl, hs, hd, ok, q⟩ := h
  obtain ⟨its, rv, hl, hz⟩ := I.list hs
  rw [Vals.ref1 r]
  have er := reads_of I hd rv
  have el : xs.length = ds.length := (dp_ea hd).length
  have lv : its.length = ds.length := by rw [← rv.length, el]
  refine PySem.W.sorted_data (enc := id) (bs := ds) hl.isList (ea_vals (ea_self el) rv) er (by rw [List.map_id]; exact ok.al) (by rw [List.map_id]; exact ok.so) ok.sz (fun d m => ?_) fun out h1 h2 => ?_
  · have h3 := depth_le ok.dp d m
    show X.A.units + 2 + d.depth < cLine
    omega
  · obtain ⟨ys, g1, g2⟩ := sorts_of rv el h1 h2
    obtain ⟨ep, he'⟩ := PyProof.Rows.sortedAll_at s.heap its out.toArray
    have hlen : ys.length ≤ sizeLine := by rw [g2.1]; exact hz
    exact ⟨.ref _, upd H (s.heap.objs.size + 1) (.lst ys), I.laid (t' := s.toks) (fun b u e => PyProof.Rows.sortedAll_old e) (Nat.le_succ _) ⟨hlen, out, ep, g1, he'⟩, rfl, q ys _ g2 (I.hok.fresh (Nat.le_succ _))⟩
end
section
variable {prog : Program} {w : World} {A : Around} {E : Value → Shared → Prop} {s : Shared}
/-- sorted(whatever can be collected) -/
theorem sorted_by {src : Value} {Q : Value → Shared → Prop} {P : Heap → Nat → List Value → Prop} {R : List Value → Value → D → Prop} {bs : List D}
    (hcol : ∀ (W : List Value → Shared → Prop) (E' : Value → Shared → Prop), (∀ h' tk vs, (∀ b o, s.heap.get? b = some o → h'.get? b = some o) → P h' tk vs → W vs { s with heap := h', toks := tk }) → wpAny (model prog w) A.in1 (collect src) W E' s)
    (al : PySem.W.AllAlike bs) (so : PySem.W.Sortable bs) (sz : bs.length ≤ sizeLine) (dp : ∀ d ∈ bs, A.units + 8 + d.depth < cLine)
    (hP : ∀ h' tk vs, (∀ b o, s.heap.get? b = some o → h'.get? b = some o) → P h' tk vs → PySem.W.EachIs (R vs) vs bs ∧ PySem.W.EachIs (fun v d => ∃ as, Reads h' v d as) vs bs)
    (hQ : ∀ h' tk vs out, (∀ b o, s.heap.get? b = some o → h'.get? b = some o) → P h' tk vs → out.length = bs.length → PySem.W.EachIs (R vs) out (sortL bs) →
      Q (.ref h'.objs.size) { s with heap := sortedHeap (h'.push (seqObj "list" vs.toArray 0)) h'.objs.size vs out.toArray, toks := tk }) :
    wpAny (model prog w) A (call (.builtin "sorted") [src]) Q E s := by
  refine Calls.call_function_entry PyProof.Rows.kind_sorted PyProof.Rows.plain_sorted PyProof.Rows.entry_sorted (PyProof.Rows.args_sorted1 _) ?_
  unfold Builtin.«sorted»
  refine wpAny_bind (m := checkCount "sorted" 1 1 _) (wpAny_pure ?_)
  refine wpAny_bind (hcol _ _ fun h' tk vs hk hp => ?_)
  obtain ⟨e, er⟩ := hP h' tk vs hk hp
  have lv : vs.length = bs.length := e.length
  refine wpAny_bind (wpAny_newList ?_ (by rw [lv]; exact sz))
  have hoL : (h'.push (seqObj "list" vs.toArray 0)).get? h'.objs.size = some (seqObj "list" vs.toArray 0) := Heap.get?_push_size _ rfl
  show wpAny _ _ _ _ _ { s with heap := h'.push (seqObj "list" vs.toArray 0), toks := tk }
  have er' : PySem.W.EachIs (fun v d => ∃ as, Reads (PySem.W.sortingHeap (h'.push (seqObj "list" vs.toArray 0)) h'.objs.size vs) v (id d) as) vs bs := er.mono fun v d ⟨as, r⟩ =>
    ⟨as, PyProof.Rows.Reads.keeps (fun b o q => PySem.W.sortingHeap_old (Nat.ne_of_lt (Heap.lt_size q)) (Heap.get?_push_of_some _ q)) r⟩
  refine wpAny_bind (wpAny_holding (wpAny_call_entry PyProof.Rows.slot_list_sort ⟨_, hoL, rfl⟩ PyProof.Rows.entry_list_sort
    (PySem.W.list_sort_vals (s := { s with heap := h'.push (seqObj "list" vs.toArray 0), toks := tk }) (κ := PySem.W.dataKind (PySem.W.sortingHeap (h'.push (seqObj "list" vs.toArray 0)) h'.objs.size vs) (bs.map id)) hoL
      (PySem.W.SortsAt.data (s := { s with heap := PySem.W.sortingHeap (h'.push (seqObj "list" vs.toArray 0)) h'.objs.size vs, toks := tk }) (by rw [List.map_id]; exact er') (by rw [List.map_id]; exact al) (by rw [List.map_id]; exact so) (fun d m => ?_)) (by rw [lv]; exact sz) ⟨_, rfl, ?_⟩) (PyProof.Rows.args_list_sort _)))
  · have := dp d (by rw [List.map_id] at m; exact m)
    show A.units + 1 + 1 + d.depth < cLine
    omega
  · refine wpAny_pure ⟨_, rfl, hQ h' tk vs _ hk hp (by rw [PySem.W.sortVals_length false rfl]; exact lv) (PySem.W.sortVals_data (enc := id) false e er' (by rw [List.map_id]; exact al))⟩
end
section
variable {X : Cx}
theorem cr_sortT (hu : X.A.units + 64 < cLine) : CallR X (.builtin "sorted") (rSort X.K SqT) := by
  intro pins s σ H vs us Q I r h
  obtain ⟨a, xs, ds, rfl, hs, hd, ok, q⟩ := h
  obtain ⟨its, rv, ht, hz⟩ := I.tuple hs
  rw [Vals.ref1 r]
  have er := reads_of I hd rv
  have el : xs.length = ds.length := (dp_ea hd).length
  obtain ⟨o, ho, hc, n, hdat⟩ := id ht
  refine sorted_by (bs := ds) (P := fun h' tk vs => vs = its ∧ tk = s.toks) (R := fun _ v d => ∃ x, RelV x v ∧ (x, d) ∈ xs.zip ds) (fun W E' hW => ?_) ok.al ok.so ok.sz (fun d m => ?_) (fun h' tk vs hk hp => ?_) fun h' tk vs out hk hp h1 h2 => ?_
  · refine wpAny_collect_seq a (.inr rfl) ho hc hdat (fun h' hk => ?_) (by rw [List.size_toArray, ← rv.length]; exact hz)
    have := hW h' s.toks its hk ⟨rfl, rfl⟩
    simpa using this
  · have h3 := depth_le ok.dp d m
    omega
  · obtain ⟨rfl, rfl⟩ := hp
    exact ⟨ea_vals (ea_self el) rv, er.mono fun v d ⟨as, r⟩ => ⟨as, PyProof.Rows.Reads.keeps hk r⟩⟩
  · obtain ⟨rfl, rfl⟩ := hp
    obtain ⟨ys, g1, g2⟩ := sorts_of rv el h1 h2
    have hoL : (h'.push (seqObj "list" vs.toArray 0)).get? h'.objs.size = some (seqObj "list" vs.toArray 0) := Heap.get?_push_size _ rfl
    obtain ⟨ep, he'⟩ := PyProof.Rows.sortedHeap_at (vs := vs) (out := out.toArray) hoL
    have hlen : ys.length ≤ sizeLine := by rw [g2.1]; exact hz
    have I1 : Inv X pins σ H { s with heap := h', toks := s.toks } := I.kept hk
    refine ⟨.ref _, upd H h'.objs.size (.lst ys), I1.laid (t' := s.toks) (fun b u e => ?_) (Nat.le_refl _) ⟨hlen, out, ep, g1, he'⟩, rfl, q ys _ g2 (I1.hok.fresh (Nat.le_refl _))⟩
    rw [PyProof.Rows.sortedHeap_old (Nat.ne_of_lt (Heap.lt_size e)) (by rw [size_push']; exact Nat.lt_succ_of_lt (Heap.lt_size e))]
    exact Heap.get?_push_of_some _ e
end
end Pu
set_option maxRecDepth 100000
set_option maxHeartbeats 4000000
/-! sorted(a dict); sorted as an expression. -/
namespace Pu
open PySem PySem.Spec PyProof.Rows L2
def rSortK (K : PySem.W.Frag) : List V → Hp → VK → Prop := fun vs H Q => ∃ (a : Addr) (kvs : List (L2.Key × V)), vs = [V.ref a] ∧ Rd H a (.dK kvs) ∧ SortOk (kvs.map fun e => keyD e.1) ∧
  ∀ (ys : List V) (p : Addr), SortsTo (kvs.map fun e => kV e.1) (kvs.map fun e => keyD e.1) ys → H p = none → Q (.ref p) (upd H p (.lst ys))
theorem reads_key {h : Heap} {k : L2.Key} {v : Value} (r : RelV (kV k) v) : ∃ as, Reads h v (keyD k) as := by
  cases k with
  | inl i => obtain ⟨t, rfl⟩ := r; exact ⟨_, .int i t⟩
  | inr x => obtain ⟨t, rfl⟩ := r; exact ⟨_, .str x t⟩
theorem rel_of_is {k : L2.Key} {v : Value} (h : L2.keyIs k v = true) : RelV (kV k) v := by
  rcases keyIs_shape h with ⟨i, t, rfl, rfl⟩ | ⟨x, t, rfl, rfl⟩
  · exact ⟨t, rfl⟩
  · exact ⟨t, rfl⟩
theorem vals_at : ∀ {xs : List V} {vs : List Value}, xs.length = vs.length → (∀ (j : Nat) (x : V) (v : Value), xs[j]? = some x → vs[j]? = some v → RelV x v) → Vals xs vs
  | [], [], _, _ => .nil
  | x :: xs, v :: vs, h, r => .cons (r 0 x v rfl rfl) (vals_at (by simpa using h) fun j y u a b => r (j + 1) y u a b)
  | [], _ :: _, h, _ => by cases h
  | _ :: _, [], h, _ => by cases h
theorem key_reads {h : Heap} : ∀ {ks : List L2.Key} {vs : List Value}, Vals (ks.map kV) vs → PySem.W.EachIs (fun v d => ∃ as, Reads h v d as) vs (ks.map keyD)
  | [], _, r => by cases r; exact .nil
  | k :: ks, _, r => by
    cases r with
    | cons a b => exact .cons (reads_key a) (key_reads b)
section
variable {X : Cx}
theorem cr_sortK (hcalm : X.calm = true) (hu : X.A.units + 64 < cLine) : CallR X (.builtin "sorted") (rSortK X.K) := by
  intro pins s σ H vs us Q I r h
  obtain ⟨a, kvs, rfl, hd, ok, q⟩ := h
  rw [Vals.ref1 r]
  obtain ⟨z, lo, es, rel, dd⟩ := dk_rd I.hok hd
  obtain ⟨ep, hat⟩ := dd.dictAt
  have hkeys : es.map (·.1) = kvs.map (·.1) := rel.keys.symm
  have hl : es.length = kvs.length := by
    have e := congrArg List.length hkeys
    rw [List.length_map, List.length_map] at e
    exact e
  have h16 : es.length ≤ sizeLine := by rw [hl]; exact z
  have el : (kvs.map fun e => kV e.1).length = (kvs.map fun e => keyD e.1).length := by rw [List.length_map, List.length_map]
  have m1 : (kvs.map fun e => kV e.1) = (kvs.map (·.1)).map kV := by rw [List.map_map]; rfl
  have m2 : (kvs.map fun e => keyD e.1) = (kvs.map (·.1)).map keyD := by rw [List.map_map]; rfl
  refine sorted_by (bs := kvs.map fun e => keyD e.1) (P := fun h' tk vs => Vals (kvs.map fun e => kV e.1) vs) (R := fun _ v d => ∃ x, RelV x v ∧ (x, d) ∈ (kvs.map fun e => kV e.1).zip (kvs.map fun e => keyD e.1)) (fun W E' hW => ?_) ok.al ok.so ok.sz (fun d m => ?_) (fun h' tk vs hk hp => ?_) fun h' tk vs out hk hp h1 h2 => ?_
  · refine PySem.W.kdu_collect (A := X.A.in1) (PySem.W.kdl_dict (knd := mixKind X.prog X.w) (kvs := es) (ep := ep) lo) (I.ok.hd hcalm) hat h16 fun h' tk acc hk hacc => hW h' tk acc.toList hk (vals_at ((List.length_map ..).trans (hl.symm.trans ((Array.length_toList ..).trans hacc.1).symm)) fun j x v hx hv => ?_)
    obtain ⟨k, y, e1, e2⟩ := hacc.2 j v (by rw [← Array.getElem?_toList]; exact hv)
    have e3 : (es.map (·.1))[j]? = some k := by rw [List.getElem?_map, e1]; rfl
    rw [hkeys] at e3
    rw [m1, List.getElem?_map, e3] at hx
    cases hx
    exact rel_of_is e2
  · have h3 := depth_le ok.dp d m
    omega
  · refine ⟨ea_vals (ea_self el) hp, ?_⟩
    rw [m2]
    rw [m1] at hp
    exact key_reads hp
  · obtain ⟨ys, g1, g2⟩ := sorts_of hp el h1 h2
    have hoL : (h'.push (seqObj "list" vs.toArray 0)).get? h'.objs.size = some (seqObj "list" vs.toArray 0) := Heap.get?_push_size _ rfl
    obtain ⟨ep', he'⟩ := PyProof.Rows.sortedHeap_at (vs := vs) (out := out.toArray) hoL
    have hlen : ys.length ≤ sizeLine := by rw [g2.1, List.length_map]; exact z
    have I1 : Inv X pins σ H { s with heap := h', toks := tk } := I.kept hk
    refine ⟨.ref _, upd H h'.objs.size (.lst ys), I1.laid (t' := tk) (fun b u e => ?_) (Nat.le_refl _) ⟨hlen, out, ep', g1, he'⟩, rfl, q ys _ g2 (I1.hok.fresh (Nat.le_refl _))⟩
    rw [PyProof.Rows.sortedHeap_old (Nat.ne_of_lt (Heap.lt_size e)) (by rw [size_push']; exact Nat.lt_succ_of_lt (Heap.lt_size e))]
    exact Heap.get?_push_of_some _ e
def rSortA (K : PySem.W.Frag) : List V → Hp → VK → Prop := fun vs H Q => rSort K SqL vs H Q ∨ rSort K SqT vs H Q ∨ rSortK K vs H Q
theorem cr_sortA (hcalm : X.calm = true) (hu : X.A.units + 64 < cLine) : CallR X (.builtin "sorted") (rSortA X.K) := by
  intro pins s σ H vs us Q I r h
  rcases h with h | h | h
  · exact cr_sortL hu pins s σ H vs us Q I r h
  · exact cr_sortT hu pins s σ H vs us Q I r h
  · exact cr_sortK hcalm hu pins s σ H vs us Q I r h
end
section
variable {K : PySem.W.Frag}
theorem sort1_some {ds : List D} {d : D} (h : sort1 ds = some d) : SortOk ds ∧ d = .list (sortL ds) := by
  unfold sort1 at h
  split at h
  · rename_i e
    cases h
    exact ⟨sortOk_of e, rfl⟩
  · cases h
theorem repK_keys {F : Hp} : ∀ {kvs : List (L2.Key × V)} {ds : List (D × D)}, RepK K F kvs ds → (kvs.map fun e => keyD e.1) = ds.map (·.1) ∧ Reps K F (kvs.map fun e => kV e.1) (kvs.map fun e => keyD e.1)
  | _, _, .nil => ⟨rfl, .nil⟩
  | _, _, .cons a b r => by
    obtain ⟨h1, h2⟩ := repK_keys r
    exact ⟨by simp [h1], .cons a h2⟩
theorem sort_r {H F : Hp} {x d : D} {v : V} {Q : VK} (s : Same F H) (r : RepB K H F v x) (ho : sortD x = some d) (q : ∀ (ds : List D) (xs : List V) (p : Addr), d = .list ds → Reps K F xs ds → H p = none → Q (.ref p) (upd H p (.lst xs))) : rSortA K [v] H Q := by
  unfold sortD at ho
  split at ho
  · obtain ⟨ok, rfl⟩ := sort1_some ho
    obtain ⟨a, xs, rfl, hs, rr⟩ := r.list s
    exact .inl ⟨a, xs, _, rfl, hs, (rr.mono s).dp ok.nd, ok, fun ys p st hn => q _ ys p rfl (ea_reps (st.2 _ (reps_ea rr))) hn⟩
  · obtain ⟨ok, rfl⟩ := sort1_some ho
    obtain ⟨a, xs, rfl, _, hs, rr⟩ := r.tuple s
    exact .inr (.inl ⟨a, xs, _, rfl, hs, (rr.mono s).dp ok.nd, ok, fun ys p st hn => q _ ys p rfl (ea_reps (st.2 _ (reps_ea rr))) hn⟩)
  · split at ho
    · rename_i nt
      obtain ⟨ok, rfl⟩ := sort1_some ho
      obtain ⟨a, kvs, rfl, hs, rr⟩ := r.dict s nt
      obtain ⟨k1, k2⟩ := repK_keys rr
      rw [k1] at k2
      exact .inr (.inr ⟨a, kvs, rfl, hs, by rw [k1]; exact ok, fun ys p st hn => q _ ys p rfl (ea_reps (by rw [k1] at st; exact st.2 _ (reps_ea k2))) hn⟩)
    · cases ho
  · cases ho
theorem sem_sort : SemC K (rSortA K) [true] (m1 sortD) := sem1 fun H F x v d Q s r ho q => sort_r s r ho fun ds xs p e rr hn => new_lst s (by subst e; exact q) rr p hn
end
section
variable {X : Cx} {a : Expr} {f : F1} {pos p : Pos}
theorem x_sorted (hc : X.calm = true) (hu : X.A.units + 64 < cLine) (hg : Gl X "sorted") (hm : X.mg "sorted" = none) (ha : PB X a f) (h1 : starEach [a] X.env = (false, eval a X.env) :: starEach [] X.env := by rfl) : PX X (.Call (.Name "sorted" p) [a] [] pos) (fCall (m1 sortD) [f]) := x_bi (cr_sortA hc hu) sem_sort hg hm (by decide +kernel) (ar_bor ha ar_nil h1) (h1 := h1)
theorem f_sorted (hc : X.calm = true) (hu : X.A.units + 64 < cLine) (hg : Gl X "sorted") (hm : X.mg "sorted" = none) (ha : PB X a f) (h1 : starEach [a] X.env = (false, eval a X.env) :: starEach [] X.env := by rfl) : PF X (.Call (.Name "sorted" p) [a] [] pos) (fCall (m1 sortD) [f]) :=
  peImp (pe_callB (cr_sortA hc hu) hg hm (by decide +kernel) (pa_cons ha pa_nil h1) (by decide) (by decide) h1) fun σ H Q ⟨H0, F0, F, ρ, d, S, hd, q⟩ => by
  obtain ⟨ds, hds, ho⟩ := Option.bind_eq_some_iff.mp hd
  obtain ⟨x, hx, h2⟩ := Option.bind_eq_some_iff.mp hds
  obtain ⟨ys, h3, h4⟩ := Option.bind_eq_some_iff.mp h2
  cases h3
  cases h4
  refine ⟨H0, F0, F, ρ, x, S, hx, fun H1 F1 v e1 r1 => sort_r e1.sub r1 ho fun ds xs p e rr hn => ?_⟩
  exact new_own e1.sub (fun H' F' p o ex h1 h2 h3 h4 => q H' F' p o (e1.trans ex) h1 (e1.h.free h2) h3 (by subst e; exact h4)) rr p hn
end
end Pu
set_option maxRecDepth 100000
set_option maxHeartbeats 4000000
/-! New dicts, d.update(e). -/
namespace Pu
open PySem PySem.Spec PyProof.Rows L2
theorem new_ownK {K : PySem.W.Frag} {H F : Hp} {Q : VK} {kvs : List (L2.Key × V)} {ds : List (D × D)} (s : Same F H) (q : ∀ H' F' p o, Ext H F H' F' → F' p = none → H p = none → H' p = some o → RepO K F' o (.dict ds) → Q (.ref p) H') (r : RepK K F kvs ds) : ∀ p, H p = none → Q (.ref p) (upd H p (.dK kvs)) := fun p hp =>
  q _ F p _ (Ext.aside s (same_upd hp)) (s.free hp) hp upd_same (by unfold RepO; exact r)
theorem Ext.over {H F H2 F2 : Hp} (e : Ext H F H2 F2) {p : Addr} (hp : H p = none) (f2 : F2 p = none) (o : HO) : Ext H F (upd H2 p o) F2 :=
  ⟨fun b u h => by rw [upd_ne (ne_of_none h hp)]; exact e.h b u h, e.f, fun b u h => by rw [upd_ne (ne_of_none h f2)]; exact e.sub b u h, e.new⟩
section
variable {X : Cx} {pos : Pos}
theorem f_dict0 : PF X (.Dict [] [] pos) (fK (.dict [])) := peImp pe_dnewK fun σ H Q ⟨H0, F0, F, ρ, d, S, hd, q⟩ => by
  cases hd
  exact new_ownK S.sub q .nil
variable {k v : Expr} {f g : F1}
theorem f_dict1 (hk : PX X k f) (hv : PX X v g) : PF X (.Dict [some k] [v] pos) (fDict1 f g) := peImp (pe_disp (pps_cons hk hv pps_nil) rfl rfl (by simp) (show 1 ≤ 15 by decide)) fun σ H Q ⟨H0, F0, F, ρ, d, S, hd, q⟩ p hp => by
  obtain ⟨x, hx, h2⟩ := Option.bind_eq_some_iff.mp hd
  obtain ⟨y, hy, h3⟩ := Option.bind_eq_some_iff.mp h2
  split at h3
  · rename_i ck
    cases h3
    have fp : F p = none := S.sub.free hp
    have e0 : Ext H F (upd H p (.dK [])) F := Ext.aside S.sub (same_upd hp)
    refine ⟨H0, F0, F, ρ, x, S.ext e0, hx, fun H1 F1 v1 e1 r1 => ⟨H0, F0, F1, ρ, y, (S.ext e0).ext e1, hy, fun H2 F2 v2 e2 r2 => ?_⟩⟩
    have f1 : F1 p = none := by
      cases z : F1 p with
      | none => rfl
      | some u =>
        rcases e1.new p u z with z | z
        · rw [fp] at z; cases z
        · rw [upd_same] at z; cases z
    have h1p : H1 p = some (.dK []) := e1.h _ _ upd_same
    have f2 : F2 p = none := by
      cases z : F2 p with
      | none => rfl
      | some u =>
        rcases e2.new p u z with z | z
        · rw [f1] at z; cases z
        · rw [h1p] at z; cases z
    have h2p : H2 p = some (.dK []) := e2.h _ _ h1p
    obtain ⟨kk, rfl, rfl⟩ := rep_key r1 ck
    refine ⟨h2p, [(kk, v2)], rfl, (show 1 ≤ 15 by decide), ?_⟩
    have ee : Ext H F H2 F2 := (e0.trans e1).trans e2
    refine q _ F2 p (.dK (L2.mergeK [] [(kk, v2)])) (ee.over hp f2 _) f2 hp upd_same ?_
    have rr : RepK X.K F2 [(kk, v2)] [(keyD kk, y)] := .cons (r1.mono e2.f) r2 .nil
    exact rr
  · cases h3
end
theorem RepK.merge {K : PySem.W.Frag} {F : Hp} : ∀ {ms : List (L2.Key × V)} {es : List (D × D)} {kvs : List (L2.Key × V)} {ds : List (D × D)}, RepK K F ms es → RepK K F kvs ds → RepK K F (L2.mergeK kvs ms) (mergeK ds es)
  | _, _, _, _, .nil, r => r
  | _, _, _, _, .cons (kvs := k2) (ds := d2) a b t, r => RepK.merge (ms := k2) (es := d2) t (r.put a b)
def rUpd : V → List V → Hp → VK → Prop := fun x xs H Q => ∃ (d o : Addr) (kvs more : List (L2.Key × V)), x = .ref d ∧ xs = [.ref o] ∧ H d = some (.dK kvs) ∧ Rd H o (.dK more) ∧ d ≠ o ∧ kvs.length + more.length ≤ sizeLine ∧ Q .non (upd H d (.dK (L2.mergeK kvs more)))
theorem mt_upd {X : Cx} : MtR X "dict.update" rUpd := by
  intro pins s σ H x xs v us Q I rx rxs h
  obtain ⟨d, o, kvs, more, rfl, rfl, hd, ho, hne, hz, q⟩ := h
  cases rx
  obtain rfl := Vals.ref1 rxs
  obtain ⟨z, hdm, vs, rel, dd⟩ := dk_of I.hok hd
  obtain ⟨zo, lo, ws, relo, ddo⟩ := dk_rd I.hok ho
  have l1 : vs.length = kvs.length := rel.length.symm
  have l2 : ws.length = more.length := relo.length.symm
  refine PySem.call_meetsIn PySem.F.slot_dict_update dd.typeIs PySem.F.entry_dict_update (PySem.F.args_dict_update_2 _ _) (meets_dict_update (mixKind X.prog X.w) d o hne lo) ⟨vs, ws, dd, ddo, by omega, fun h' hd' ho' hs' => ?_⟩
  have he : ∃ q, h'.get? d = some q := let ⟨q, _, _, hq, _⟩ := hd'; ⟨q, hq⟩
  have hm : (L2.mergeK kvs more).length ≤ sizeLine := Nat.le_trans (L2.length_mergeK more kvs) hz
  exact ⟨.non, _, d_write (t' := s.toks) I (by rw [hd]; exact True.intro) hs' he (dk_new hm hdm (L2.KV.merge relo rel) hd'), rfl, q⟩
section
variable {X : Cx} {fr : Bool} {e : Expr} {f : F1} {pos : Pos}
theorem s_upd (i : Nat) {x : Str} {p1 p2 cpos : Pos} (he : PX X e f) (hN : X.N[i]? = some x := by rfl) (hv : Vis X.env.scope x := by first | exact Or.inl rfl | exact Or.inr (Or.inl rfl) | exact Or.inr (Or.inr rfl)) (hd : (x == ("__debug__" : Str)) = false := by decide)
    (hcd : (x == ("__classdict__" : Str)) = false := by decide) (hbase : attributeBase (.Name x p1) "update" X.env (eval (.Name x p1) X.env) = eval (.Name x p1) X.env := by rfl)
    (hfew : ((backTo cpos (starEach [e] X.env)).all (fun x => !x.1) && (backToKw cpos (keywordEach [] X.env)).all (fun x => x.1.isSome) && decide (([e] : List Expr).length + ([] : List Keyword).length + (if ([] : List Keyword).isEmpty then 0 else 1) < 30)) = true := by rfl)
    (hline : (p2.endLine == cpos.line) = true := by rfl) (h1 : starEach [e] X.env = (false, eval e X.env) :: starEach [] X.env := by rfl)
    (hs : swapsWith (.Call (.Attribute (.Name x p1) "update" p2) [e] [] cpos) none pos.line X.env = pure false := by rfl) : SX X fr (.Expr (.Call (.Attribute (.Name x p1) "update" p2) [e] [] cpos) pos) (gUpd i f) :=
  psImp (ps_expr (pe_bm PySem.F.plainAttrs_dict PySem.F.slot_dict_update PySem.F.type_dict_update mt_upd (pv i hN hv hd hcd) (pa_cons he pa_nil h1) hbase hfew hline h1) hs) fun D σ H ⟨H0, F0, F, ρ, o, S, hd, q⟩ => by
  obtain ⟨y, hy, h2⟩ := Option.bind_eq_some_iff.mp hd
  cases e : atR ρ i with
  | no => rw [e] at h2; cases h2
  | val d => rw [e] at h2; cases h2
  | bor d => rw [e] at h2; cases h2
  | own d =>
    rw [e] at h2
    obtain ⟨hi, z, hσ, p, ob, rfl, f0, h0, hp, r⟩ := S.at e (by simp)
    split at h2
    · rename_i kvs more e1
      cases e1
      split at h2
      · rename_i hc
        cases h2
        simp only [Bool.and_eq_true, decide_eq_true_eq] at hc
        unfold RepO at r
        split at r
        · rename_i z; cases z
        · rename_i ks ds' e''
          cases e''
          refine ⟨_, hσ, .inr (.inr (.inl ⟨rfl, .inl ⟨_, hp⟩⟩)), H0, F0, F, ρ, .dict more, S, hy, fun H1 F1 v e1 r1 => ?_⟩
          obtain ⟨a, ms, rfl, hm, rm⟩ := (RepB.dict (.inl r1) e1.sub hc.1.2)
          have fp : F1 p = none := by
            cases z : F1 p with
            | none => rfl
            | some u =>
              rcases e1.new p u z with z | z
              · rw [f0] at z; cases z
              · rw [hp] at z; cases z
          refine ⟨p, a, ks, ms, rfl, rfl, e1.h _ _ hp, hm, ?_, by have := hc.2; rw [r.length, rm.length]; omega, ?_⟩
          · rintro rfl
            cases r1 with
            | dK hh _ => rw [fp] at hh; cases hh
            | dT hh _ => rw [fp] at hh; cases hh
          · exact q σ _ F1 ((S.ext e1).change (o' := .dK (L2.mergeK ks ms)) hi hσ ((RepK.merge rm (r.mono e1.f)))) e1.f
        · rename_i z
          cases z
          exact absurd (show false = true from hc.1.1) Bool.false_ne_true
        · exact r.elim
      · cases h2
    · cases h2
end
end Pu
set_option maxRecDepth 100000
set_option maxHeartbeats 4000000
/-! dict(e), d.get(k, e), a, b = e, [] with cells. -/
namespace Pu
open PySem PySem.Spec PyProof.Rows L2
def rDictA (K : PySem.W.Frag) : List V → Hp → VK → Prop := fun xs H Q => (∃ (a : Addr) (kvs : List (L2.Key × V)), xs = [.ref a] ∧ Rd H a (.dK kvs) ∧ ∀ p, H p = none → Q (.ref p) (upd H p (.dK kvs))) ∨
  (∃ (a : Addr) (ps : List Addr) (kvs : List (L2.Key × V)), xs = [.ref a] ∧ SqL K H a (ps.map V.ref) ∧ Paired (fun p kv => SqT K H p [kV kv.1, kv.2]) ps kvs ∧ ∀ p, H p = none → Q (.ref p) (upd H p (.dK (L2.mergeK [] kvs))))
theorem call_dictA {X : Cx} (hc : X.calm = true) : CallR X (.type "dict") (rDictA X.K) := by
  intro pins s σ H vs us Q I r h
  rcases h with h | h
  · exact call_dictD pins s σ H vs us Q I r h
  · exact call_dictP hc pins s σ H vs us Q I r h
section
variable {K : PySem.W.Frag}
theorem pairs_some {F H : Hp} (s : Same F H) : ∀ {ds : List D} {kvs : List (D × D)} {xs : List V}, pairsL ds = some kvs → Reps K F xs ds → ∃ (ps : List Addr) (ks : List (L2.Key × V)), xs = ps.map V.ref ∧ Paired (fun p kv => SqT K H p [kV kv.1, kv.2]) ps ks ∧ RepK K F ks kvs
  | [], _, _, h, r => by
    cases h
    cases r
    exact ⟨[], [], rfl, .nil, .nil⟩
  | d :: ds, kvs, _, h, r => by
    unfold pairsL at h
    split at h
    · rename_i z; cases z
    · rename_i k v t e
      cases e
      split at h
      · rename_i ck
        obtain ⟨es, h1, rfl⟩ := Option.map_eq_some_iff.mp h
        cases r with
        | cons r1 rr =>
          cases r1 with
          | tup ht r2 =>
            cases r2 with
            | cons rk r3 =>
              cases r3 with
              | cons rv r4 =>
                cases r4
                obtain ⟨ps, ks, rfl, g1, g2⟩ := pairs_some s h1 rr
                obtain ⟨kk, rfl, rfl⟩ := rep_key rk ck
                exact ⟨_ :: ps, (kk, _) :: ks, rfl, .cons (.of (s _ _ ht)) g1, .cons rk rv g2⟩
      · cases h
    · cases h
theorem dict_r {H F : Hp} {x d : D} {v : V} {Q : VK} (s : Same F H) (r : RepB K H F v x) (ho : dictD x = some d) (q : ∀ (ds : List (D × D)) (kvs : List (L2.Key × V)) (p : Addr), d = .dict ds → RepK K F kvs ds → H p = none → Q (.ref p) (upd H p (.dK kvs))) : rDictA K [v] H Q := by
  unfold dictD at ho
  split at ho
  · split at ho
    · rename_i nt
      cases ho
      obtain ⟨a, kvs, rfl, hs, rr⟩ := r.dict s nt
      exact .inl ⟨a, kvs, rfl, hs, fun p hp => q _ kvs p rfl rr hp⟩
    · cases ho
  · obtain ⟨es, h1, rfl⟩ := Option.map_eq_some_iff.mp ho
    obtain ⟨a, xs, rfl, hs, rr⟩ := r.list s
    obtain ⟨ps, ks, rfl, g1, g2⟩ := pairs_some s h1 rr
    exact .inr ⟨a, ps, ks, rfl, hs, g1, fun p hp => q _ _ p rfl (RepK.merge g2 .nil) hp⟩
  · cases ho
end
section
variable {X : Cx} {a : Expr} {f : F1} {pos p : Pos}
theorem f_dictC (hc : X.calm = true) (hg : Gl X "dict") (hm : X.mg "dict" = none) (ha : PB X a f) (h1 : starEach [a] X.env = (false, eval a X.env) :: starEach [] X.env := by rfl) : PF X (.Call (.Name "dict" p) [a] [] pos) (fCall (m1 dictD) [f]) :=
  peImp (pe_callTy (call_dictA hc) hg hm (by decide +kernel) (pa_cons ha pa_nil h1) (by decide) (by decide) h1) fun σ H Q ⟨H0, F0, F, ρ, d, S, hd, q⟩ => by
  obtain ⟨ds, hds, ho⟩ := Option.bind_eq_some_iff.mp hd
  obtain ⟨x, hx, h2⟩ := Option.bind_eq_some_iff.mp hds
  obtain ⟨ys, h3, h4⟩ := Option.bind_eq_some_iff.mp h2
  cases h3
  cases h4
  refine ⟨H0, F0, F, ρ, x, S, hx, fun H1 F1 v e1 r1 => dict_r e1.sub r1 ho fun ds kvs p e rr hn => ?_⟩
  exact new_ownK e1.sub (fun H' F' p o ex h1 h2 h3 h4 => q H' F' p o (e1.trans ex) h1 (e1.h.free h2) h3 (by subst e; exact h4)) rr p hn
theorem x_dictC (hc : X.calm = true) (hg : Gl X "dict") (hm : X.mg "dict" = none) (ha : PB X a f) (h1 : starEach [a] X.env = (false, eval a X.env) :: starEach [] X.env := by rfl) : PX X (.Call (.Name "dict" p) [a] [] pos) (fCall (m1 dictD) [f]) := PF.toX (f_dictC hc hg hm ha h1)
end
/-! d.get(k, e) -/
section
variable {X : Cx} {o k v : Expr} {f g h : F1} {apos cpos : Pos}
theorem x_get (hu : X.A.units + 64 < cLine) (ho : PB X o f) (hk : PX X k g) (hv : PX X v h) (m : M2 X o "get" apos k v cpos := by exact ⟨rfl, rfl, rfl, rfl⟩) : PX X (.Call (.Attribute o "get" apos) [k, v] [] cpos) (fGet f g h) :=
  peImp (pe_dget2 (by omega) ho hk hv m) fun σ H Q ⟨H0, F0, F, ρ, d, S, hd, q⟩ => by
  obtain ⟨x, hx, h2⟩ := Option.bind_eq_some_iff.mp hd
  obtain ⟨y, hy, h3⟩ := Option.bind_eq_some_iff.mp h2
  obtain ⟨z, hz, h4⟩ := Option.bind_eq_some_iff.mp h3
  split at h4
  · rename_i kvs
    split at h4
    · rename_i hc
      cases h4
      simp only [Bool.and_eq_true] at hc
      refine ⟨H0, F0, F, ρ, _, S, hx, fun H1 F1 v1 e1 r1 => ?_⟩
      obtain ⟨a, ks, rfl, hs, rr⟩ := r1.dict e1.sub hc.2
      refine ⟨a, rfl, .inl ⟨ks, hs⟩, H0, F0, F1, ρ, y, S.ext e1, hy, fun H2 F2 v2 e2 r2 => ⟨H0, F0, F2, ρ, z, (S.ext e1).ext e2, hz, fun H3 F3 v3 e3 r3 => ?_⟩⟩
      obtain ⟨kk, rfl, rfl⟩ := rep_key r2 hc.1
      have hs3 : Rd H3 a (.dK ks) := by
        rcases hs with hs | ⟨ob, hs⟩
        · exact .inl (e3.h _ _ (e2.h _ _ hs))
        · exact .inr ⟨ob, e3.h _ _ (e2.h _ _ hs)⟩
      have rr3 := rr.mono (e2.f.trans e3.f)
      obtain ⟨l1, l2, _⟩ := rr3.look (k := kk)
      refine ⟨valV ks kk, .inl ⟨ks, kk, hs3, rfl, rfl⟩, ?_⟩
      have ee : Ext H F H3 F3 := (e1.trans e2).trans e3
      cases e : valV ks kk with
      | none =>
        have z0 := (l2 e).1
        rw [z0] at q
        exact q H3 F3 _ ee r3
      | some w =>
        obtain ⟨dd, h5, h6⟩ := l1 w e
        rw [h5] at q
        exact q H3 F3 _ ee h6
    · cases h4
  · cases h4
end
end Pu
set_option maxRecDepth 100000
set_option maxHeartbeats 4000000
/-! a, b = e, [] with cells; a change of a thing that is dropped. -/
namespace Pu
open PySem PySem.Spec PyProof.Rows L2
section
variable {X : Cx} {fr : Bool} {a b : Expr} {f g : F1} {pos px py pt p2 : Pos} {kt k2 : Nat}
theorem s_parC {i j : Nat} {x y : Str} (hc : X.calm = true) (hN : X.N.Nodup) (hi : X.N[i]? = some x) (hj : X.N[j]? = some y) (hij : i ≠ j) (hx : Loc X.env.scope x) (hy : Loc X.env.scope y) (ha : PX X a f) (hb : PF X b g)
    (fx : X.fn x = true ∨ X.env.scope.names.lookup x = some .local := by first | exact .inl rfl | exact .inr rfl) (fy : X.fn y = true ∨ X.env.scope.names.lookup y = some .local := by first | exact .inl rfl | exact .inr rfl)
    (h1 : starEach [a, b] X.env = (false, eval a X.env) :: starEach [b] X.env := by rfl) (h2 : starEach [b] X.env = (false, eval b X.env) :: starEach [] X.env := by rfl)
    (hs : swapsWithSole [.Tuple [.Name x px, .Name y py] kt pt] (.Tuple [a, b] k2 p2) pos.line X.env = pure false := by rfl) (hw : swappedStores [.Tuple [.Name x px, .Name y py] kt pt] (.Tuple [a, b] k2 p2) X.env = pure none := by rfl)
    (h3 : (assignEach [.Tuple [.Name x px, .Name y py] kt pt] X.env).map (·.2) = [assign (.Tuple [.Name x px, .Name y py] kt pt) X.env] := by rfl) :
    SX X fr (.Assign [.Tuple [.Name x px, .Name y py] kt pt] (.Tuple [a, b] k2 p2) pos) (gPar i j false true f g) :=
  psImp (ps_asg (pe_tup (pa_cons ha (pa_cons hb pa_nil h2) h1)) (pg_tup hc (pgs_cons (pg_name hN hi hx fx) (pgs_cons (pg_name hN hj hy fy) pgs_nil))) hs hw h3) fun D σ H ⟨H0, F0, F, ρ, o, S, hd, q⟩ => by
  obtain ⟨d1, d2, g1, g2, rfl⟩ := gPar_some hd
  refine ⟨H0, F0, F, ρ, d1, S, g1, fun H1 F1 v1 e1 r1 => ⟨H0, F0, F1, ρ, d2, S.ext e1, g2, fun H2 F2 p o2 e2 fp hp h2 r2 => ⟨show 2 ≤ sizeLine by decide, fun t ht => ?_⟩⟩⟩
  have ne : p ≠ t := by rintro rfl; rw [ht] at h2; cases h2
  have e3 : Ext H2 F2 (upd H2 t (.tup [v1, .ref p])) F2 := Ext.aside e2.sub (same_upd ht)
  refine ⟨t, _, rfl, .of upd_same, rfl, _, _, rfl, _, _, rfl, rfl, ?_⟩
  have S2 := (((S.ext e1).ext e2).ext e3).set i (r1.mono e2.f)
  refine q _ _ F2 (S2.putOwn j fp (S.h.free (e1.h.free hp)) (by rw [upd_ne ne]; exact h2) r2 fun k dk z1 z2 => ?_) (e1.f.trans e2.f)
  by_cases e : i = k
  · subst e
    have hl := set_lt z1
    rw [List.getElem?_set_self hl] at z1; cases z1
  · rw [List.getElem?_set_ne e] at z1 z2
    exact S.noOwn (e1.h.free hp) k dk z1 z2
variable {o e : Expr} {apos cpos : Pos}
/-- e.append(e'), where e makes a new list -/
theorem s_dropApp (ho : PF X o f) (he : PX X e g) (hbase : attributeBase o "append" X.env (eval o X.env) = eval o X.env := by rfl)
    (hfew : ((backTo cpos (starEach [e] X.env)).all (fun x => !x.1) && (backToKw cpos (keywordEach [] X.env)).all (fun x => x.1.isSome) && decide (([e] : List Expr).length + ([] : List Keyword).length + (if ([] : List Keyword).isEmpty then 0 else 1) < 30)) = true := by rfl)
    (hline : (apos.endLine == cpos.line) = true := by rfl) (h1 : starEach [e] X.env = (false, eval e X.env) :: starEach [] X.env := by rfl)
    (hs : swapsWith (.Call (.Attribute o "append" apos) [e] [] cpos) none pos.line X.env = pure false := by rfl) : SX X fr (.Expr (.Call (.Attribute o "append" apos) [e] [] cpos) pos) (gDropApp f g) :=
  psImp (ps_expr (pe_bm PySem.F.plainAttrs_list PySem.F.slot_list_append PySem.F.type_list_append mt_append ho (pa_cons he pa_nil h1) hbase hfew hline h1) hs) fun D σ H ⟨H0, F0, F, ρ, ou, S, hd, q⟩ => by
  obtain ⟨x, hx, h2⟩ := Option.bind_eq_some_iff.mp hd
  obtain ⟨y, hy, h3⟩ := Option.bind_eq_some_iff.mp h2
  split at h3
  · rename_i ds
    split at h3
    · rename_i hz
      cases h3
      refine ⟨H0, F0, F, ρ, _, S, hx, fun H1 F1 p o1 e1 fp hp hp1 r1 => ?_⟩
      unfold RepO at r1
      split at r1
      · rename_i xs ds' e'
        cases e'
        refine ⟨.inl ⟨rfl, xs, .of hp1⟩, H0, F0, F1, ρ, y, S.ext e1, hy, fun H2 F2 v e2 r2 => ⟨p, xs, v, rfl, rfl, e2.h _ _ hp1, ?_, ?_⟩⟩
        · rw [r1.length]; exact of_decide_eq_true hz
        · have f2 : F2 p = none := by
            cases z : F2 p with
            | none => rfl
            | some u =>
              rcases e2.new p u z with z | z
              · rw [fp] at z; cases z
              · rw [hp1] at z; cases z
          exact q σ _ F2 (S.ext ((e1.trans e2).over hp f2 _)) (e1.f.trans e2.f)
      · rename_i z; cases z
      · rename_i z; cases z
      · exact r1.elim
    · cases h3
  · cases h3
end
end Pu
set_option maxRecDepth 100000
set_option maxHeartbeats 4000000
/-! sorted(d.items()). -/
namespace Pu
open PySem PySem.Spec PyProof.Rows L2
open L2.DX (itemsO itemsO_ok)
section
variable {X : Cx} {o : Expr} {apos cpos : Pos}
/-- the view of a dict that may be locked -/
def tItems (to : TE) : TE := fun σ H Q => to σ H fun x H1 => ∃ (a : Addr) (kvs : List (L2.Key × V)), x = .ref a ∧ Rd H1 a (.dK kvs) ∧ ∀ p, H1 p = none → Q (.ref p) (upd H1 p (itemsO p a))
theorem pe_view {to : TE} (ho : PE X o to) (hbase : attributeBase o "items" X.env (eval o X.env) = eval o X.env := by rfl) (hline : (apos.endLine == cpos.line) = true := by rfl) : PE X (.Call (.Attribute o "items" apos) [] [] cpos) (tItems to) := by
  refine ⟨fun pins s σ H Q I h => ?_⟩
  refine wpAny_Call_method0_late hbase hline (thn (ho.run pins s σ H _ I h) fun v s1 ⟨x, H1, I1, r1, a, kvs, ex, hd, q1⟩ => ?_)
  subst ex
  obtain rfl : v = Value.ref a := r1
  obtain ⟨z, hs0, vs, rel, dd⟩ := dk_rd I1.hok hd
  obtain ⟨ob, es, ep, h1, h2, h3, _⟩ := id dd
  refine ⟨"dict", "dict.items", PySem.F.plainAttrs_dict, PySem.F.slot_dict_items, PySem.F.type_dict_items, dd.typeIs, fun b q => ?_, Calls.callWith_builtin rfl (PySem.evalArgs_none ?_)⟩
  · cases q
    exact ⟨ob, h1, h2.2.1⟩
  · refine DT.callItems (es := es) (ep := ep) hs0 ⟨ob, h1, h2, h3⟩ ?_
    have hf : H1 s1.heap.objs.size = none := I1.hok.fresh (Nat.le_refl _)
    exact ⟨.ref s1.heap.objs.size, upd H1 s1.heap.objs.size (itemsO s1.heap.objs.size a), I1.laid (t' := s1.toks) (fun b u e => Heap.get?_push_of_some _ e) (Nat.le_refl _) (itemsO_ok (Heap.get?_push_size _ rfl)), rfl, q1 _ hf⟩
end
def rowD (kv : D × D) : D := .tuple [kv.1, kv.2]
def rSortV (K : PySem.W.Frag) : List V → Hp → VK → Prop := fun vs H Q => ∃ (p a : Addr) (kvs : List (L2.Key × V)) (ds : List (D × D)), vs = [V.ref p] ∧ H p = some (itemsO p a) ∧ Rd H a (.dK kvs) ∧ DpAll K H (kvs.map (·.2)) (ds.map (·.2)) ∧ ds.map (·.1) = kvs.map (fun e => keyD e.1) ∧ SortOk (ds.map rowD) ∧
  ∀ (H' : Hp) (ts : List Addr) (ys : List V) (l : Addr), (∀ b o, H b = some o → H' b = some o) → (∀ t ∈ ts, H t = none) → Paired (fun (t : Addr) (q : L2.Key × V) => H' t = some (.tup [kV q.1, q.2])) ts kvs → SortsTo (ts.map V.ref) (ds.map rowD) ys → H l = none → l ∉ ts → H' l = some (.lst ys) → Q (.ref l) H'
section
variable {X : Cx}
theorem nodup_at {α : Type} : ∀ {l : List α} {i j : Nat} {t : α}, l.Nodup → l[i]? = some t → l[j]? = some t → i = j
  | [], i, _, _, _, h, _ => by cases h
  | a :: l, 0, 0, t, _, _, _ => rfl
  | a :: l, 0, j + 1, t, n, h1, h2 => by
    cases h1
    exact absurd (List.mem_of_getElem? (l := l) (i := j) (by simpa using h2)) (List.nodup_cons.mp n).1
  | a :: l, i + 1, 0, t, n, h1, h2 => by
    cases h2
    exact absurd (List.mem_of_getElem? (l := l) (i := i) (by simpa using h1)) (List.nodup_cons.mp n).1
  | a :: l, i + 1, j + 1, t, n, h1, h2 => congrArg (· + 1) (nodup_at (List.nodup_cons.mp n).2 h1 h2)
theorem paired_of {α β : Type} {F : α → β → Prop} : ∀ {xs : List α} {ys : List β}, xs.length = ys.length → (∀ (j : Nat) (x : α) (y : β), xs[j]? = some x → ys[j]? = some y → F x y) → Paired F xs ys
  | [], [], _, _ => .nil
  | x :: xs, y :: ys, h, r => .cons (r 0 x y rfl rfl) (paired_of (by simpa using h) fun j a b e f => r (j + 1) a b e f)
  | [], _ :: _, h, _ => by cases h
  | _ :: _, [], h, _ => by cases h
theorem pget' {α β : Type} {F : α → β → Prop} : ∀ {xs : List α} {ys : List β}, Paired F xs ys → ∀ {i : Nat} {y : β}, ys[i]? = some y → ∃ x, xs[i]? = some x ∧ F x y
  | _, _, .nil, i, x, h => by cases h
  | _, _, .cons r t, 0, x, h => by
    have e := Option.some.inj h
    subst e
    exact ⟨_, rfl, r⟩
  | _, _, .cons r t, i + 1, x, h => pget' t h
theorem dp_get {K : PySem.W.Frag} {H : Hp} : ∀ {xs : List V} {ds : List D}, DpAll K H xs ds → ∀ {i : Nat} {x : V} {d : D}, xs[i]? = some x → ds[i]? = some d → Dp K H x d
  | _, _, .nil, i, x, d, h, _ => by cases h
  | _, _, .cons r t, 0, x, d, h1, h2 => by cases h1; cases h2; exact r
  | _, _, .cons r t, i + 1, x, d, h1, h2 => dp_get t h1 h2
theorem each_of_get {R : Value → D → Prop} : ∀ {vs : List Value} {ds : List D}, vs.length = ds.length → (∀ (j : Nat) (v : Value) (d : D), vs[j]? = some v → ds[j]? = some d → R v d) → PySem.W.EachIs R vs ds
  | [], [], _, _ => .nil
  | v :: vs, d :: ds, h, r => .cons (r 0 v d rfl rfl) (each_of_get (by simpa using h) fun j a b e f => r (j + 1) a b e f)
  | [], _ :: _, h, _ => by cases h
  | _ :: _, [], h, _ => by cases h
def toV : Value → V
  | .ref a => .ref a
  | _ => .non
theorem refs_toV : ∀ as : List Addr, (as.map Value.ref).map toV = as.map V.ref
  | [] => rfl
  | a :: as => by simp [toV, refs_toV as]
theorem refs_vals : ∀ as : List Addr, Vals (as.map V.ref) (as.map Value.ref)
  | [] => .nil
  | _ :: as => .cons rfl (refs_vals as)
theorem cr_sortV (hc : X.calm = true) (hu : X.A.units + 64 < cLine) : CallR X (.builtin "sorted") (rSortV X.K) := by
  intro pins s σ H vs us Q I r h
  obtain ⟨p, a, kvs, ds, rfl, hp, hd, hv, hks, ok, q⟩ := h
  rw [Vals.ref1 r]
  have view : s.heap.IsItemsView p a := (show ObjOk X.prog X.w H s.heap p (itemsO p a) from I.hok p _ hp).1
  obtain ⟨z, lo, es, rel, dd⟩ := dk_rd I.hok hd
  obtain ⟨ep, hat⟩ := dd.dictAt
  have lk : kvs.length = es.length := Paired.length rel
  have ld : ds.length = kvs.length := by have := congrArg List.length hks; simpa using this
  have read : ∀ (h' : Heap) (as : List Addr), (∀ b o, s.heap.get? b = some o → h'.get? b = some o) → as.length = es.length → PySem.W.KdxG (mixKind X.prog X.w) es s.heap.objs.size h' as → PySem.W.EachIs (fun v d => ∃ as, Reads h' v d as) (as.map Value.ref) (ds.map rowD) := by
    intro h' as hk hl hG
    refine each_of_get (by rw [List.length_map, List.length_map]; omega) fun j v d e1 e2 => ?_
    rw [List.getElem?_map] at e1 e2
    obtain ⟨t, et, rfl⟩ := Option.map_eq_some_iff.mp e1
    obtain ⟨kd, ed, rfl⟩ := Option.map_eq_some_iff.mp e2
    obtain ⟨key, k, x, f1, f2, f3⟩ := hG.pairs j t et
    obtain ⟨kv, g1, g2, g3⟩ := pget' rel f1
    have k1 : kd.1 = keyD kv.1 := by
      have h1 : (ds.map (·.1))[j]? = some kd.1 := by rw [List.getElem?_map, ed]; rfl
      rw [hks, List.getElem?_map, g1] at h1
      exact (Option.some.inj h1).symm
    obtain ⟨bs, rb⟩ := Dp.reads I kd.2 kv.2 x (dp_get hv (by rw [List.getElem?_map, g1]; rfl) (by rw [List.getElem?_map, ed]; rfl)) g3
    obtain ⟨cs, rc⟩ := reads_key (h := h') (k := kv.1) (v := key) (by rw [g2]; exact rel_of_is f2)
    refine ⟨_, Reads.tuple f3 rfl rfl (.cons (by rw [k1]; exact rc) (.cons (PyProof.Rows.Reads.keeps hk rb) .nil))⟩
  refine sorted_by (bs := ds.map rowD) (P := fun h' tk vs => ∃ as, vs = as.map Value.ref ∧ as.length = es.length ∧ PySem.W.KdxG (mixKind X.prog X.w) es s.heap.objs.size h' as) (R := fun vs v d => ∃ x, RelV x v ∧ (x, d) ∈ (vs.map toV).zip (ds.map rowD)) (fun W E' hW => ?_) ok.al ok.so ok.sz (fun d m => ?_) (fun h' tk vs hk hp => ?_) fun h' tk vs out hk hp h1 h2 => ?_
  · exact PySem.W.kdx_collect (A := X.A.in1) (knd := mixKind X.prog X.w) (kvs := es) (ep := ep) (I.ok.hd hc) view hat (by omega) fun h' tk as hk hl hG => hW h' tk _ hk ⟨as, rfl, hl, hG⟩
  · have h3 := depth_le ok.dp d m
    omega
  · obtain ⟨as, rfl, hl, hG⟩ := hp
    have rd := read h' as hk hl hG
    have le : (as.map V.ref).length = (ds.map rowD).length := by rw [List.length_map, List.length_map]; omega
    rw [refs_toV]
    exact ⟨ea_vals (ea_self le) (refs_vals as), rd⟩
  · obtain ⟨as, rfl, hl, hG⟩ := hp
    have le : (as.map V.ref).length = (ds.map rowD).length := by rw [List.length_map, List.length_map]; omega
    rw [refs_toV] at h2
    obtain ⟨ys, g1, g2⟩ := sorts_of (refs_vals as) le h1 h2
    have I1 : Inv X pins σ H { s with heap := h', toks := tk } := I.kept hk
    have nd : as.Nodup := List.Pairwise.imp (fun {a b} (h : a < b) => Nat.ne_of_lt h) hG.rise
    have new : ∀ t ∈ as, H t = none := fun t ht => I.hok.fresh (Nat.le_of_lt (hG.above t ht))
    obtain ⟨H2, I2, k2, k3⟩ := L2.DX.takeT I (P := fun t xs => ∀ j, as[j]? = some t → ∃ kv : L2.Key × V, kvs[j]? = some kv ∧ xs = [kV kv.1, kv.2]) as H I1 nd fun t ht => by
      obtain ⟨j, hj⟩ := List.mem_iff_getElem?.mp ht
      obtain ⟨key, k, x, f1, f2, f3⟩ := hG.pairs j t hj
      obtain ⟨kv, g1, g2, g3⟩ := pget' rel f1
      refine ⟨Nat.le_of_lt (hG.above t ht), new t ht, [kV kv.1, kv.2], fun j' hj' => ?_, fun H2 => ?_⟩
      · have e : j = j' := nodup_at nd hj hj'
        subst e
        exact ⟨kv, g1, rfl⟩
      · exact ⟨by show 2 ≤ sizeLine; decide, [key, x], .cons (by rw [g2]; exact rel_of_is f2) (.cons g3 .nil), ⟨_, f3, rfl, _, rfl⟩⟩
    have hoL : (h'.push (seqObj "list" (as.map Value.ref).toArray 0)).get? h'.objs.size = some (seqObj "list" (as.map Value.ref).toArray 0) := Heap.get?_push_size _ rfl
    obtain ⟨ep', he'⟩ := PyProof.Rows.sortedHeap_at (vs := as.map Value.ref) (out := out.toArray) hoL
    have hlen : ys.length ≤ sizeLine := by rw [g2.1, List.length_map]; omega
    have fresh2 : H2 h'.objs.size = none := I2.hok.fresh (Nat.le_refl _)
    have fresh : H h'.objs.size = none := I1.hok.fresh (Nat.le_refl _)
    have nin : h'.objs.size ∉ as := fun m => Nat.lt_irrefl _ (hG.there m)
    refine ⟨.ref _, upd H2 h'.objs.size (.lst ys), I2.laid (t' := tk) (fun b u e => ?_) (Nat.le_refl _) ⟨hlen, out, ep', g1, he'⟩, rfl, q _ as ys _ (fun b o e => ?_) new (paired_of (by omega) fun j t kv e1 e2 => ?_) g2 fresh nin upd_same⟩
    · rw [PyProof.Rows.sortedHeap_old (Nat.ne_of_lt (Heap.lt_size e)) (by rw [size_push']; exact Nat.lt_succ_of_lt (Heap.lt_size e))]
      exact Heap.get?_push_of_some _ e
    · rw [upd_ne (ne_of_none e fresh)]
      exact k2 b o e
    · have mt := List.mem_of_getElem? e1
      obtain ⟨xs, x1, x2⟩ := k3 t mt
      obtain ⟨kv', y1, rfl⟩ := x1 j e1
      rw [e2] at y1
      cases y1
      rw [upd_ne (fun z => nin (by rw [← z]; exact mt))]
      exact x2
end
section
variable {X : Cx} {a : Expr} {f : F1} {pos p apos cpos : Pos}
theorem repK_vals {K : PySem.W.Frag} {F : Hp} : ∀ {kvs : List (L2.Key × V)} {ds : List (D × D)}, RepK K F kvs ds → ds.map (·.1) = kvs.map (fun e => keyD e.1) ∧ Reps K F (kvs.map (·.2)) (ds.map (·.2))
  | _, _, .nil => ⟨rfl, .nil⟩
  | _, _, .cons a b r => by
    obtain ⟨h1, h2⟩ := repK_vals r
    exact ⟨by simp [h1], .cons b h2⟩
theorem rows_rep {K : PySem.W.Frag} {F F' : Hp} (s : Same F F') : ∀ {ts : List Addr} {kvs : List (L2.Key × V)} {ds : List (D × D)}, Paired (fun (t : Addr) (q : L2.Key × V) => F' t = some (.tup [kV q.1, q.2])) ts kvs → RepK K F kvs ds → Ea (Rep K F') (ts.map V.ref) (ds.map rowD)
  | _, _, _, .nil, .nil => .nil
  | _, _, _, .cons h t, .cons a b r => .cons (.tup h (.cons (a.mono s) (.cons (b.mono s) .nil))) (rows_rep s t r)
theorem noDicts_vals : ∀ {ds : List (D × D)}, noDicts (ds.map rowD) = true → noDicts (ds.map (·.2)) = true
  | [], _ => rfl
  | kv :: ds, h => by
    simp only [List.map_cons, noDicts, rowD, noDict, Bool.and_eq_true] at h ⊢
    exact ⟨h.1.2.1, noDicts_vals h.2⟩
theorem f_sortItems (hc : X.calm = true) (hu : X.A.units + 64 < cLine) (hg : Gl X "sorted") (hm : X.mg "sorted" = none) (ha : PX X a f) (hbase : attributeBase a "items" X.env (eval a X.env) = eval a X.env := by rfl) (hline : (apos.endLine == cpos.line) = true := by rfl)
    (h1 : starEach [.Call (.Attribute a "items" apos) [] [] cpos] X.env = (false, eval (.Call (.Attribute a "items" apos) [] [] cpos) X.env) :: starEach [] X.env := by rfl) : PF X (.Call (.Name "sorted" p) [.Call (.Attribute a "items" apos) [] [] cpos] [] pos) (f1 sortItemsD f) :=
  peImp (pe_callB (cr_sortV hc hu) hg hm (by decide +kernel) (pa_cons (pe_view ha hbase hline) pa_nil h1) (by decide) (by decide) h1) fun σ H Q ⟨H0, F0, F, ρ, d, S, hd, q⟩ => by
  obtain ⟨x, hx, ho⟩ := f1_some hd
  unfold sortItemsD at ho
  split at ho
  · rename_i kvs
    split at ho
    · rename_i nt
      obtain ⟨ok, rfl⟩ := sort1_some ho
      refine ⟨H0, F0, F, ρ, _, S, hx, fun H1 F1 v e1 r1 => ?_⟩
      obtain ⟨ad, ks, rfl, hs, rr⟩ := RepB.dict (.inl r1) e1.sub nt
      refine ⟨ad, ks, rfl, hs, fun pv hpv => ?_⟩
      obtain ⟨k1, k2⟩ := repK_vals rr
      have s1 : Same H1 (upd H1 pv (L2.DX.itemsO pv ad)) := same_upd hpv
      have hs' : Rd (upd H1 pv (L2.DX.itemsO pv ad)) ad (.dK ks) := by
        rcases hs with hs | ⟨ob, hs⟩
        · exact .inl (s1 _ _ hs)
        · exact .inr ⟨ob, s1 _ _ hs⟩
      refine ⟨pv, ad, ks, kvs, rfl, upd_same, hs', ((k2.mono e1.sub).mono s1).dp (noDicts_vals (by have := ok.nd; exact this)), k1, ok, fun H' ts ys l g1 g2 g3 g4 g5 g6 g7 => ?_⟩
      have tf : ∀ t ∈ ts, F1 t = none := fun t ht => e1.sub.free (s1.free (g2 t ht))
      let F' : Hp := fun b => if b ∈ ts then H' b else F1 b
      have sF : Same F1 F' := fun b u e => by
        show (if b ∈ ts then H' b else F1 b) = some u
        rw [if_neg (fun m => by rw [tf b m] at e; cases e)]
        exact e
      have ex : Ext H1 F1 H' F' := ⟨fun b u e => g1 _ _ (s1 _ _ e), sF, fun b u e => by
        have e' : (if b ∈ ts then H' b else F1 b) = some u := e
        split at e'
        · exact e'
        · exact g1 _ _ (s1 _ _ (e1.sub _ _ e')), fun b u e => by
        have e' : (if b ∈ ts then H' b else F1 b) = some u := e
        split at e'
        · rename_i m
          exact .inr (s1.free (g2 b m))
        · exact .inl e'⟩
      have rows : Ea (Rep X.K F') (ts.map V.ref) (kvs.map rowD) := rows_rep sF (by
        refine paired_of g3.length fun j t kv a1 a2 => ?_
        obtain ⟨t', b1, b2⟩ := pget' g3 a2
        rw [a1] at b1
        cases b1
        show (if t ∈ ts then H' t else F1 t) = _
        rw [if_pos (List.mem_of_getElem? a1)]
        exact b2) rr
      have fl : F' l = none := by
        show (if l ∈ ts then H' l else F1 l) = none
        rw [if_neg g6]
        exact e1.sub.free (s1.free g5)
      refine q H' F' l (.lst ys) (e1.trans ex) fl (e1.h.free (s1.free g5)) g7 ?_
      exact ea_reps (g4.2 _ rows)
    · cases ho
  · cases ho
end
end Pu
set_option maxRecDepth 100000
set_option maxHeartbeats 4000000
/-! x.remove(e) of a list of texts. -/
namespace Pu
open PySem PySem.Spec PyProof.Rows L2
theorem remL_at : ∀ {ss : List Str} {x : Str} {es : List D}, remL (.str x) (ss.map .str) = some es → ∃ j, j < ss.length ∧ ss[j]? = some x ∧ (∀ i, i < j → ss[i]? ≠ some x) ∧ es = (ss.eraseIdx j).map .str
  | [], _, _, h => by cases h
  | y :: ss, x, es, h => by
    simp only [List.map_cons, remL] at h
    split at h
    · rename_i c
      have e : y = x := by simpa [PyData.eqv] using c
      subst e
      cases h
      exact ⟨0, by simp, rfl, fun i hi => absurd hi (Nat.not_lt_zero _), rfl⟩
    · rename_i c
      have e : ¬ y = x := by simpa [PyData.eqv] using c
      obtain ⟨fs, h1, rfl⟩ := Option.map_eq_some_iff.mp h
      obtain ⟨j, a, b, c, rfl⟩ := remL_at h1
      refine ⟨j + 1, by simp; omega, by simpa using b, fun i hi => ?_, by simp⟩
      cases i with
      | zero => simpa using e
      | succ i => simpa using c i (by omega)
theorem strsL_some : ∀ {ds : List D} {ss : List Str}, strsL ds = some ss → ds = ss.map .str
  | [], _, h => by cases h; rfl
  | d :: ds, ss, h => by
    unfold strsL at h
    split at h
    · rename_i z; cases z
    · rename_i x r e
      cases e
      obtain ⟨t, h1, rfl⟩ := Option.map_eq_some_iff.mp h
      rw [strsL_some h1]; rfl
    · cases h
def rRemS : V → List V → Hp → VK → Prop := fun v xs H Q => ∃ (l : Addr) (ss : List Str) (x : Str) (j : Nat), v = .ref l ∧ xs = [.str x] ∧ H l = some (.lst (ss.map V.str)) ∧ j < ss.length ∧ ss[j]? = some x ∧ (∀ i, i < j → ss[i]? ≠ some x) ∧ Q .non (upd H l (.lst ((ss.eraseIdx j).map V.str)))
theorem isStr_at (k : Str) : ∀ {vs : List Value} {ns : List Str}, StrsAre vs ns → ∀ (i : Nat) (h : i < vs.length), isStrOf k vs[i] = true ↔ ns[i]? = some k
  | _, _, .nil, i, h => absurd h (by simp)
  | _, _, .cons n t hr, 0, _ => by
    show isStrOf k (.str n t) = true ↔ some n = some k
    unfold isStrOf
    simp
  | _, _, .cons n t hr, i + 1, h => isStr_at k hr i (Nat.lt_of_succ_lt_succ h)
theorem mt_remS {X : Cx} : MtR X "list.remove" rRemS := by
  intro pins s σ H v xs u us Q I rx rxs h
  obtain ⟨l, ss, x, j, rfl, rfl, hH, hj, hx, hno, q⟩ := h
  cases rx
  obtain ⟨w, rfl, rw1⟩ := vals1 rxs
  obtain ⟨t, rfl⟩ := rw1
  obtain ⟨z, its, n, r, hl, e0⟩ := I.lstM hH
  have hi : StrsAre its ss := strsAre_of r
  have heq := PyProof.Rows.eq_isStrOf x t hi
  have hnl : ss.length = its.length := by rw [← hl, List.length_map]
  have hsz : its.toArray.size ≤ sizeLine := by rw [List.size_toArray, ← hl]; exact z
  have hj' : j < its.length := by omega
  refine call_meets PySem.F.slot_list_remove ⟨_, e0, rfl⟩ PySem.F.entry_list_remove (PySem.F.args_list_remove_2 _ _)
    (MeetsSeq.list_remove l its.toArray n (.str x t) (isStrOf x) (fun y hy => heq y (by simpa using hy)) j (by rw [List.size_toArray]; exact hj') ?hit (fun i hi2 hlt => ?hno) hsz) ⟨e0, ?_⟩
  case hit => exact (isStr_at x hi j hj').mpr hx
  case hno =>
    have hi3 : i < its.length := by rw [List.size_toArray] at hi2; exact hi2
    show isStrOf x its[i] = false
    rw [Bool.eq_false_iff]
    intro w
    exact hno i hlt ((isStr_at x hi i hi3).mp w)
  have r2 : Vals ((ss.eraseIdx j).map V.str) (its.eraseIdx j) := by
    have w := r.eraseIdx j
    rw [DT.map_erase]
    exact w
  refine ⟨.non, _, I.lset (its' := its.eraseIdx j) hH e0 ?_ r2 ?_, rfl, q⟩
  · show its.toArray.eraseIdxIfInBounds j = (its.eraseIdx j).toArray
    rw [List.eraseIdxIfInBounds_toArray]
  · rw [List.length_map]
    rw [List.length_map] at z
    exact Nat.le_trans (List.length_eraseIdx_le ..) z
theorem reps_strs {K : PySem.W.Frag} {F : Hp} : ∀ {xs : List V} {ss : List Str}, Reps K F xs (ss.map .str) → xs = ss.map V.str ∧ ∀ x ∈ ss, PyData.strOk x = true
  | _, [], r => by cases r; exact ⟨rfl, fun _ h => by cases h⟩
  | _, s :: ss, r => by
    cases r with
    | cons a b =>
      cases a with
      | str _ h =>
        obtain ⟨h1, h2⟩ := reps_strs b
        refine ⟨by rw [h1]; rfl, fun x m => ?_⟩
        rcases List.mem_cons.mp m with rfl | m
        · exact h
        · exact h2 x m
theorem strs_reps {K : PySem.W.Frag} {F : Hp} : ∀ {ss : List Str}, (∀ x ∈ ss, PyData.strOk x = true) → Reps K F (ss.map V.str) (ss.map .str)
  | [], _ => .nil
  | s :: ss, h => .cons (.str s (h s List.mem_cons_self)) (strs_reps fun x m => h x (List.mem_cons_of_mem _ m))
section
variable {X : Cx} {fr : Bool} {e : Expr} {f : F1} {pos : Pos}
theorem s_rem (i : Nat) {x : Str} {p1 p2 cpos : Pos} (he : PX X e f) (hN : X.N[i]? = some x := by rfl) (hv : Vis X.env.scope x := by first | exact Or.inl rfl | exact Or.inr (Or.inl rfl) | exact Or.inr (Or.inr rfl)) (hd : (x == ("__debug__" : Str)) = false := by decide)
    (hcd : (x == ("__classdict__" : Str)) = false := by decide) (hbase : attributeBase (.Name x p1) "remove" X.env (eval (.Name x p1) X.env) = eval (.Name x p1) X.env := by rfl)
    (hfew : ((backTo cpos (starEach [e] X.env)).all (fun x => !x.1) && (backToKw cpos (keywordEach [] X.env)).all (fun x => x.1.isSome) && decide (([e] : List Expr).length + ([] : List Keyword).length + (if ([] : List Keyword).isEmpty then 0 else 1) < 30)) = true := by rfl)
    (hline : (p2.endLine == cpos.line) = true := by rfl) (h1 : starEach [e] X.env = (false, eval e X.env) :: starEach [] X.env := by rfl)
    (hs : swapsWith (.Call (.Attribute (.Name x p1) "remove" p2) [e] [] cpos) none pos.line X.env = pure false := by rfl) : SX X fr (.Expr (.Call (.Attribute (.Name x p1) "remove" p2) [e] [] cpos) pos) (gRem i f) :=
  psImp (ps_expr (pe_bm PySem.F.plainAttrs_list PySem.F.slot_list_remove PySem.F.type_list_remove mt_remS (pv i hN hv hd hcd) (pa_cons he pa_nil h1) hbase hfew hline h1) hs) fun D σ H ⟨H0, F0, F, ρ, o, S, hd, q⟩ => by
  obtain ⟨y, hy, h2⟩ := Option.bind_eq_some_iff.mp hd
  cases e : atR ρ i with
  | no => rw [e] at h2; cases h2
  | val d => rw [e] at h2; cases h2
  | bor d => rw [e] at h2; cases h2
  | own d =>
    rw [e] at h2
    obtain ⟨hi, z, hσ, p, ob, rfl, f0, h0, hp, r⟩ := S.at e (by simp)
    split at h2
    · rename_i ds x' e1
      cases e1
      split at h2
      · rename_i hc
        obtain ⟨es, h3, rfl⟩ := Option.map_eq_some_iff.mp h2
        obtain ⟨ss, hss⟩ := Option.isSome_iff_exists.mp hc
        have eds := strsL_some hss
        subst eds
        obtain ⟨j, j1, j2, j3, rfl⟩ := remL_at h3
        unfold RepO at r
        split at r
        · rename_i xs ds' e'
          cases e'
          obtain ⟨rfl, ok⟩ := reps_strs r
          refine ⟨_, hσ, .inl ⟨rfl, _, .of hp⟩, H0, F0, F, ρ, _, S, hy, fun H1 F1 v e1 r1 => ?_⟩
          cases r1
          refine ⟨p, ss, x', j, rfl, rfl, e1.h _ _ hp, j1, j2, j3, ?_⟩
          exact q σ _ F1 ((S.ext e1).change (o' := .lst ((ss.eraseIdx j).map V.str)) hi hσ (strs_reps fun x m => ok x (List.mem_of_mem_eraseIdx m))) e1.f
        · rename_i z; cases z
        · rename_i z; cases z
        · exact r.elim
      · cases h2
    · cases h2
end
end Pu
set_option maxRecDepth 100000
set_option maxHeartbeats 4000000
/-! list + list as a new object; zip. -/
namespace Pu
open PySem PySem.Spec PyProof.Rows L2
section
variable {X : Cx} {a b : Expr} {f g : F1} {pos p : Pos}
theorem f_cat (ha : PB X a f) (hb : PB X b g) : PF X (.BinOp a .Add b pos) (f2 catD f g) := peImp (pe_op op_catL ha hb) fun σ H Q ⟨H0, F0, F, ρ, d, S, hd, q⟩ => by
  obtain ⟨x, y, hx, hy, ho⟩ := f2_some hd
  refine ⟨H0, F0, F, ρ, x, S, hx, fun H1 F1 v e1 r1 => ⟨H0, F0, F1, ρ, y, S.ext e1, hy, fun H2 F2 w e2 r2 => ?_⟩⟩
  unfold catD at ho
  split at ho
  · rename_i ds es
    split at ho
    · rename_i hc
      cases ho
      unfold fitsL at hc
      rw [decide_eq_true_eq] at hc
      obtain ⟨l, xs, rfl, h1, r1'⟩ := (r1.mono e2.h e2.f).list e2.sub
      obtain ⟨m, ys, rfl, h2, r2'⟩ := r2.list e2.sub
      refine ⟨l, m, xs, ys, rfl, rfl, h1, h2, by rw [r1'.length, r2'.length]; exact hc, ?_⟩
      exact new_own e2.sub (fun H' F' p o e h1 h2 h3 h4 => q H' F' p o ((e1.trans e2).trans e) h1 (e1.h.free (e2.h.free h2)) h3 h4) (r1'.append r2')
    · cases ho
  · cases ho
theorem i_zip {elts : List Expr} {kk : Nat} {tpos : Pos} (hg : Gl X "zip") (hm : X.mg "zip" = none) (ha : PX X a f) (hb : PX X b g) (h1 : starEach [a, b] X.env = (false, eval a X.env) :: starEach [b] X.env := by rfl) (h2 : starEach [b] X.env = (false, eval b X.env) :: starEach [] X.env := by rfl)
    (hpl : (backTo pos (starEach [b] X.env)).any (·.1) = false := by rfl) : IX X (.Tuple elts kk tpos) (.Call (.Name "zip" p) [a, b] [] pos) false (sZipS f g) :=
  piImp (RZ.pi_zipA hg hm (pa_cons ha (pa_cons hb pa_nil h2) h1) h1 hpl) fun σ H R ⟨H0, F0, F, ρ, ds, S, hd, q⟩ => by
  obtain ⟨x, hx, h3⟩ := Option.bind_eq_some_iff.mp hd
  obtain ⟨y, hy, h4⟩ := Option.bind_eq_some_iff.mp h3
  refine ⟨H0, F0, F, ρ, x, S, hx, fun H1 F1 v e1 r1 => ⟨H0, F0, F1, ρ, y, S.ext e1, hy, fun H2 F2 w e2 r2 => ?_⟩⟩
  split at h4
  · cases h4
    cases r1 with
    | lst s1 k1 =>
      cases r2 with
      | lst s2 k2 =>
        have z1 := e2.sub.seq (e2.f.seq s1)
        have z2 := e2.sub.seq s2
        exact ⟨_, _, _, _, rfl, .inl ⟨z1, z2, q H2 F2 _ (e1.trans e2) (yld_zipL (e2.f.seq s1) s2 (k1.mono e2.f) k2)⟩⟩
  · cases h4
    cases r1 with
    | tup s1 k1 =>
      cases r2 with
      | tup s2 k2 =>
        have z1 := e2.sub _ _ (e2.f _ _ s1)
        have z2 := e2.sub _ _ s2
        exact ⟨_, _, _, _, rfl, .inr ⟨.of z1, .of z2, q H2 F2 _ (e1.trans e2) (yld_zipT (e2.f _ _ s1) s2 (k1.mono e2.f) k2)⟩⟩
  · cases h4
end
end Pu
set_option maxRecDepth 100000
set_option maxHeartbeats 4000000
/-! tuple * int. -/
namespace Pu
open PySem PySem.Spec PyProof.Rows L2
def repD : D → D → Option D
  | .tuple ds, .int k => if decide (2 ≤ k) && decide (k ≤ 1000) && decide (ds.length ≤ 1000) && decide (ds ≠ []) then some (.tuple (List.replicate k.toNat ds).flatten) else none
  | _, _ => none
section
variable {X : Cx} {a b : Expr} {f g : F1} {pos p : Pos} {K : PySem.W.Frag} {F : Hp}
theorem Reps.rep {xs : List V} {ds : List D} (h : Reps K F xs ds) : ∀ k : Nat, Reps K F (List.replicate k xs).flatten (List.replicate k ds).flatten
  | 0 => .nil
  | k + 1 => by
    rw [List.replicate_succ, List.replicate_succ, List.flatten_cons, List.flatten_cons]
    exact h.append (Reps.rep h k)
theorem sem_rep : Sem2 K (rRepT K) repD := fun H F x y vx vy d Q s rx ry hd q => by
  unfold repD at hd; split at hd
  · split at hd
    · rename_i hc
      cases hd
      simp only [Bool.and_eq_true, decide_eq_true_eq] at hc
      obtain ⟨⟨⟨c1, c2⟩, c3⟩, c4⟩ := hc
      cases rx.rep rfl with
      | tup s1 k1 =>
        have hl := k1.length
        refine ⟨_, _, _, rfl, ry.int, .of (s _ _ s1), ?_, c1, c2, by omega, new_tup s q (Reps.rep k1 _)⟩
        intro e
        subst e
        exact c4 (List.length_eq_zero_iff.mp hl.symm)
    · cases hd
  · cases hd
theorem x_rep (ha : PB X a f) (hb : PB X b g) : PX X (.BinOp a .Mult b pos) (f2 repD f g) := x_op op_repT sem_rep ha hb
end
end Pu
set_option maxRecDepth 100000
/-! Mirrors of the defs of all laws, printed by gen.py. -/
namespace Mi
open PySem Pu
def G_is_number : G := gRet (fAnd (f1 (isInst .int) (bVar 0)) (fAnd (f1 notD (f1 (isInst .bool) (bVar 0))) (fChain leD leD (bVar 1) (bVar 0) (bVar 2))))
def m_is_number : Fn := runQ false 3 [false, false, false] (G_is_number)
def G_is_name : G := gSeq (gSet 1 (fK (.str "abcdefghijklmnopqrstuvwxyz"))) (gRet (fAnd (f1 (isInst .str) (bVar 0)) (fAnd (fChain leD leD (fK (.int 1)) (fCall (m1 lenD) [bVar 0]) (fK (.int 8))) (fCall (m1 allD) [fLc [2] (sSeq (fVar 0)) (gN 2) (tYes) (f2 inD (bVar 2) (bVar 1))]))))
def m_is_name : Fn := runQ false 3 [false] (G_is_name)
def G_is_strand (m_is_name : Fn) (m_is_number : Fn) : G := gRet (fAnd (f1 (isInst .tuple) (bVar 0)) (fAnd (f2 eqD (fCall (m1 lenD) [bVar 0]) (fK (.int 2))) (fAnd (fCall m_is_name [f2 ixD (bVar 0) (fK (.int 0))]) (fCall m_is_number [f2 ixD (bVar 0) (fK (.int 1)), fK (.int 1), fK (.int 99)]))))
def m_is_strand : Fn := runQ false 1 [false] (G_is_strand m_is_name m_is_number)
def G_is_tied_so (m_is_strand : Fn) (m_is_tied_so : Fn) : G := gSeq (gIf (tOf (fCall m_is_strand [fVar 0])) (gRet (fK (.bool true))) (gSkip)) (gRet (fAnd (f1 (isInst .tuple) (bVar 0)) (fAnd (f2 gtD (fCall (m1 lenD) [bVar 0]) (fK (.int 1))) (fCall (m1 allD) [fLc [1] (sSeq (fVar 0)) (gN 1) (tYes) (fCall m_is_tied_so [fVar 1])]))))
def mf_is_tied_so : Nat → Fn
  | 0 => fun _ => none
  | n + 1 => runQ false 2 [false] (G_is_tied_so m_is_strand (mf_is_tied_so n))
def m_is_tied_so : Fn := mf_is_tied_so 24
def G_is_one : G := gRet (f1 (isInst .str) (f2 ixD (bVar 0) (fK (.int 0))))
def m_is_one : Fn := runQ false 1 [false] (G_is_one)
def G_strands_of (m_is_one : Fn) (m_strands_of : Fn) : G := gSeq (gIf (tOf (fCall m_is_one [fVar 0])) (gRet (fLst [fVar 0])) (gSkip)) (gRet (fLc2 [1, 2] (sSeq (fVar 0)) (gN 1) tYes [2] (sSeq (fCall m_strands_of [fVar 1])) (gN 2) tYes (fVar 2)))
def mf_strands_of : Nat → Fn
  | 0 => fun _ => none
  | n + 1 => runQ false 3 [false] (G_strands_of m_is_one (mf_strands_of n))
def m_strands_of : Fn := mf_strands_of 24
def G_is_cord (m_is_tied_so : Fn) (m_strands_of : Fn) : G := gSeq (gIf (tNot (tOf (fCall m_is_tied_so [fVar 0]))) (gRet (fK (.bool false))) (gSkip)) (gSeq (gSet 1 (fLc [2, 3] (sSeq (fCall m_strands_of [fVar 0])) (gT2 2 3) (tYes) (fVar 2))) (gRet (fAnd (f2 leD (fCall (m1 lenD) [bVar 1]) (fK (.int 8))) (f2 eqD (f1 lenSetD (bVar 1)) (fCall (m1 lenD) [bVar 1])))))
def m_is_cord : Fn := runQ false 4 [false] (G_is_cord m_is_tied_so m_strands_of)
def G_law_cell : G := gSeq (gIf (tOf (f2 ltD (bVar 1) (fCall (m1 lenD) [bVar 0]))) (gRet (f2 ixD (bVar 0) (bVar 1))) (gSkip)) (gSeq (gIf (tOf (f2 eqD (fCall (m1 lenD) [bVar 0]) (fK (.int 0)))) (gRet (f2 addD (f2 mulD (fK (.int 7919)) (bVar 1)) (fK (.int 101)))) (gSkip)) (gRet (f2 addD (f2 modD (f2 ixD (bVar 0) (f2 modD (bVar 1) (fCall (m1 lenD) [bVar 0]))) (fK (.int 1000003))) (f2 mulD (fK (.int 7919)) (bVar 1)))))
def m_law_cell : Fn := runQ false 2 [false, false] (G_law_cell)
def B_law_draws_1 : G := gSeq (gSet 9 (f2 mulD (f2 modD (bVar 5) (f2 ixD (bVar 4) (f2 modD (bVar 8) (fK (.int 8))))) (f2 addD (fK (.int 48271)) (f2 mulD (f2 mulD (fK (.int 2)) (bVar 8)) (bVar 8))))) (gSeq (gSet 9 (f2 addD (f2 addD (bVar 9) (f2 mulD (f2 mulD (fK (.int 7919)) (f2 addD (bVar 8) (fK (.int 1)))) (f2 addD (bVar 8) (fK (.int 1))))) (f2 mulD (fK (.int 104729)) (bVar 1)))) (gSeq (gSet 9 (f2 modD (bVar 9) (f2 ixD (bVar 4) (f2 modD (f2 addD (f2 mulD (fK (.int 3)) (bVar 8)) (bVar 1)) (fK (.int 8)))))) (gSeq (gSet 9 (f2 modD (f2 mulD (f2 mulD (bVar 9) (bVar 9)) (bVar 9)) (f2 ixD (bVar 4) (f2 modD (f2 addD (bVar 8) (fK (.int 5))) (fK (.int 8)))))) (gSeq (gIf (tOf (f2 gtD (bVar 6) (fK (.int 0)))) (gSet 9 (fVar 6)) (gSkip)) (gSeq (gApp 7 (f2 modD (bVar 9) (bVar 3))) (gSet 6 (f2 divD (bVar 6) (bVar 3))))))))
def G_law_draws (m_law_cell : Fn) : G := gSeq (gSet 4 (fTup [fK (.int 2147483647), fK (.int 2147483629), fK (.int 2147483587), fK (.int 2147483579), fK (.int 2147483563), fK (.int 2147483549), fK (.int 2147483543), fK (.int 2147483497)])) (gSeq (gSet 5 (fCall m_law_cell [fVar 0, fVar 1])) (gSeq (gSet 6 (fK (.int 0))) (gSeq (gIf (tOf (f2 geD (bVar 5) (f2 powD (fK (.int 10)) (fK (.int 18))))) (gSet 6 (fVar 5)) (gSkip)) (gSeq (gOwn 7 (fLst [])) (gSeq (gFor (sRng (fVar 2)) (gN 8) (B_law_draws_1)) (gFrz 7 (gRet (fVar 7))))))))
def m_law_draws : Fn := runQ false 10 [false, false, false, false] (G_law_draws m_law_cell)
def G_law_number : G := gRet (fAnd (f1 (isInst .int) (bVar 0)) (fAnd (f1 notD (f1 (isInst .bool) (bVar 0))) (fChain leD leD (bVar 1) (bVar 0) (bVar 2))))
def m_law_number : Fn := runQ false 3 [false, false, false] (G_law_number)
def G_law_truly : G := gRet (fAnd (f1 (isInst .bool) (bVar 0)) (f2 eqD (bVar 0) (bVar 1)))
def m_law_truly : Fn := runQ false 2 [false, false] (G_law_truly)
def B_law_places_1 (m_law_places : Fn) : G := gSet 1 (f2 addD (bVar 1) (fLc [4] (sSeq (fCall m_law_places [fVar 3])) (gN 4) (tYes) (f2 addD (fTup [fVar 2]) (bVar 4))))
def G_law_places (m_law_places : Fn) : G := gSeq (gSet 1 (fLst [fTup []])) (gSeq (gIf (tOf (f1 (isInst .seq) (bVar 0))) (gFor (sEnum (fVar 0)) (gT2 2 3) (B_law_places_1 m_law_places)) (gSkip)) (gRet (fVar 1)))
def mf_law_places : Nat → Fn
  | 0 => fun _ => none
  | n + 1 => runQ false 5 [false] (G_law_places (mf_law_places n))
def m_law_places : Fn := mf_law_places 24
def G_law_other : G := gSeq (gSet 2 (fLst [fK .none, fK (.bool true), fK (.bool false), fK (.int 7), f2 subD (fK (.int 0)) (fK (.int 1)), f2 powD (fK (.int 10)) (fK (.int 39)), fK (.str "0"), fK (.str ""), fTup [], fLst [], fTup [fVar 0], fLst [fVar 0], fTup [fK (.int 0)], fTup [fK (.int 1), fK (.int 0)], fK (.int 1), fK (.int 0)])) (gSeq (gIf (tAnd (tOf (f1 (isInst .int) (bVar 0))) (tNot (tOf (f1 (isInst .bool) (bVar 0))))) (gSet 2 (f2 addD (fLst [f2 addD (bVar 0) (fK (.int 1)), f2 subD (bVar 0) (fK (.int 1)), fCall (m1 boolD) [bVar 0], f2 addD (bVar 0) (fK (.int 1)), f2 subD (bVar 0) (fK (.int 1)), fCall (m1 boolD) [bVar 0]]) (bVar 2))) (gSkip)) (gSeq (gIf (tOf (f1 (isInst .seq) (bVar 0))) (gSet 2 (f2 addD (fLst [fCall (m1 lstD) [bVar 0], fCall (m1 tupD) [bVar 0], fCall (m1 tupD) [f1 revD (bVar 0)], fCall (m1 lstD) [bVar 0]]) (bVar 2))) (gSkip)) (gRet (f2 ixD (bVar 2) (f2 modD (f2 ixD (bVar 1) (fK (.int 1))) (fCall (m1 lenD) [bVar 2]))))))
def m_law_other : Fn := runQ false 3 [false, false] (G_law_other)
def G_law_shifted : G := gSeq (gSet 3 (f2 modD (f2 ixD (bVar 2) (fK (.int 2))) (fCall (m1 lenD) [bVar 0]))) (gSeq (gIf (tOf (f2 eqD (f2 modD (f2 ixD (bVar 2) (fK (.int 0))) (fK (.int 3))) (fK (.int 0)))) (gRet (f2 addD (fCut (bVar 0) (none) (some (bVar 1))) (fCut (bVar 0) (some (f2 addD (bVar 1) (fK (.int 1)))) (none)))) (gSkip)) (gSeq (gIf (tOf (f2 eqD (f2 modD (f2 ixD (bVar 2) (fK (.int 0))) (fK (.int 3))) (fK (.int 1)))) (gRet (f2 addD (f2 addD (fCut (bVar 0) (none) (some (bVar 3))) (fLst [f2 ixD (bVar 0) (bVar 1)])) (fCut (bVar 0) (some (bVar 3)) (none)))) (gSkip)) (gSeq (gSet 4 (f2 addD (fCut (bVar 0) (none) (some (bVar 1))) (fCut (bVar 0) (some (f2 addD (bVar 1) (fK (.int 1)))) (none)))) (gRet (f2 addD (f2 addD (fCut (bVar 4) (none) (some (bVar 3))) (fLst [f2 ixD (bVar 0) (bVar 1)])) (fCut (bVar 4) (some (bVar 3)) (none)))))))
def m_law_shifted : Fn := runQ false 5 [false, false, false] (G_law_shifted)
def G_law_put (m_law_other : Fn) (m_law_shifted : Fn) (m_law_put : Fn) : G := gSeq (gIf (tOf (f2 eqD (bVar 1) (fTup []))) (gRet (fCall m_law_other [fVar 0, fVar 2])) (gSkip)) (gSeq (gOwn 3 (fCall (m1 lstD) [bVar 0])) (gSeq (gIf (tAnd (tOf (f2 eqD (fCall (m1 lenD) [bVar 1]) (fK (.int 1)))) (tOf (f2 eqD (f2 modD (f2 ixD (bVar 2) (fK (.int 3))) (fK (.int 2))) (fK (.int 0))))) (gFrz 3 (gSet 3 (fCall m_law_shifted [fVar 3, f2 ixD (bVar 1) (fK (.int 0)), fVar 2]))) (gSeq (gPut 3 (f2 ixD (bVar 1) (fK (.int 0))) (fCall m_law_put [f2 ixD (bVar 3) (f2 ixD (bVar 1) (fK (.int 0))), fCut (bVar 1) (some (fK (.int 1))) (none), fVar 2])) (gFrz 3 (gSkip)))) (gRet (fIf (tOf (f1 (isInst .list) (bVar 0))) (fVar 3) (fCall (m1 tupD) [bVar 3])))))
def mf_law_put : Nat → Fn
  | 0 => fun _ => none
  | n + 1 => runQ false 4 [false, false, false] (G_law_put m_law_other m_law_shifted (mf_law_put n))
def m_law_put : Fn := mf_law_put 24
def G_law_bent (m_law_places : Fn) (m_law_put : Fn) : G := gSeq (gSet 2 (fCall m_law_places [fVar 0])) (gRet (fCall m_law_put [fVar 0, f2 ixD (bVar 2) (f2 modD (f2 ixD (bVar 1) (fK (.int 4))) (fCall (m1 lenD) [bVar 2])), fVar 1]))
def m_law_bent : Fn := runQ false 3 [false, false] (G_law_bent m_law_places m_law_put)
def G_law_thing (m_law_thing : Fn) : G := gSeq (gSet 2 (f2 modD (f2 ixD (bVar 0) (bVar 1)) (fK (.int 12)))) (gSeq (gSet 3 (f2 ixD (fLst [f2 subD (f2 modD (f2 ixD (bVar 0) (f2 addD (bVar 1) (fK (.int 1)))) (fK (.int 12))) (fK (.int 2)), f2 subD (fK (.int 0)) (f2 powD (fK (.int 10)) (fK (.int 39))), f2 powD (fK (.int 10)) (fK (.int 39))]) (f2 modD (f2 ixD (bVar 0) (f2 addD (bVar 1) (fK (.int 2)))) (fK (.int 3))))) (gSeq (gIf (tOr (tOf (f2 ltD (bVar 2) (fK (.int 4)))) (tOf (f2 gtD (bVar 1) (fK (.int 3))))) (gRet (fVar 3)) (gSkip)) (gSeq (gIf (tOf (f2 ltD (bVar 2) (fK (.int 7)))) (gRet (f2 ixD (fLst [fK (.bool true), fK (.bool false), fK .none]) (f2 subD (bVar 2) (fK (.int 4))))) (gSkip)) (gSeq (gIf (tOf (f2 ltD (bVar 2) (fK (.int 9)))) (gRet (f2 ixD (fLst [fK (.str ""), fK (.str "0"), fK (.str "1-0"), fK (.str "hall"), fK (.str "3"), fK (.str "none"), fK (.str "1:"), fK (.str "~")]) (f2 modD (f2 ixD (bVar 0) (f2 addD (bVar 1) (fK (.int 3)))) (fK (.int 8))))) (gSkip)) (gSeq (gSet 4 (fLc [5] (sRng (f2 modD (f2 ixD (bVar 0) (f2 addD (bVar 1) (fK (.int 4)))) (fK (.int 4)))) (gN 5) (tYes) (fCall m_law_thing [f2 addD (fCut (bVar 0) (some (bVar 5)) (none)) (fCut (bVar 0) (none) (some (bVar 5))), f2 addD (bVar 1) (fK (.int 1))]))) (gRet (fIf (tOf (f2 eqD (bVar 2) (fK (.int 9)))) (fVar 4) (fCall (m1 tupD) [bVar 4]))))))))
def mf_law_thing : Nat → Fn
  | 0 => fun _ => none
  | n + 1 => runQ false 6 [false, false] (G_law_thing (mf_law_thing n))
def m_law_thing : Fn := mf_law_thing 24
def B_law_tied_1 : G := gSeq (gSet 4 (fCall (m2 min2D) [fCall (m1 lenD) [bVar 2], f2 addD (fK (.int 2)) (f2 modD (f2 ixD (bVar 1) (f2 modD (bVar 3) (fCall (m1 lenD) [bVar 1]))) (f2 ixD (fLst [fK (.int 1), fK (.int 2), fK (.int 7)]) (f2 modD (f2 ixD (bVar 1) (fK (.int 0))) (fK (.int 3)))))])) (gSeq (gSet 5 (f2 modD (f2 ixD (bVar 1) (f2 modD (f2 addD (bVar 3) (fK (.int 1))) (fCall (m1 lenD) [bVar 1]))) (f2 addD (f2 subD (fCall (m1 lenD) [bVar 2]) (bVar 4)) (fK (.int 1))))) (gSeq (gSet 6 (f2 addD (bVar 5) (bVar 4))) (gSeq (gSet 2 (f2 addD (f2 addD (fCut (bVar 2) (none) (some (bVar 5))) (fLst [fCall (m1 tupD) [fCut (bVar 2) (some (bVar 5)) (some (bVar 6))]])) (fCut (bVar 2) (some (bVar 6)) (none)))) (gSet 3 (f2 addD (bVar 3) (fK (.int 2)))))))
def G_law_tied : G := gSeq (gPar 2 3 false false (fCall (m1 lstD) [bVar 0]) (fK (.int 0))) (gSeq (gWhile 1000000000000000000000000 (tOf (f2 gtD (fCall (m1 lenD) [bVar 2]) (fK (.int 1)))) (B_law_tied_1)) (gRet (f2 ixD (bVar 2) (fK (.int 0)))))
def m_law_tied : Fn := runQ false 7 [false, false] (G_law_tied)
def B_law_cord_1 : G := gSeq (gSet 6 (f2 ixD (bVar 0) (f2 addD (fK (.int 2)) (bVar 5)))) (gSeq (gSet 7 (f2 ixD (fLst [f2 addD (fK (.int 1)) (f2 modD (bVar 6) (fK (.int 99))), f2 addD (fK (.int 1)) (f2 modD (bVar 6) (fK (.int 4))), f2 ixD (fTup [fK (.int 1), fK (.int 2), fK (.int 4), fK (.int 8), fK (.int 16), fK (.int 32), fK (.int 64), fK (.int 99)]) (f2 modD (bVar 6) (fK (.int 8))), f2 addD (fK (.int 1)) (f2 modD (bVar 6) (fK (.int 12)))]) (f2 modD (f2 ixD (bVar 0) (fK (.int 1))) (fK (.int 4))))) (gAppPop 4 3 (f2 modD (f2 divD (bVar 6) (fK (.int 100))) (fCall (m1 lenD) [bVar 3])) (fVar 7)))
def G_law_cord (m_law_tied : Fn) : G := gSeq (gSet 2 (f2 ixD (fLst [fVar 1, f2 addD (fK (.int 1)) (f2 modD (f2 divD (f2 ixD (bVar 0) (fK (.int 0))) (fK (.int 4))) (bVar 1)), fCall (m2 min2D) [fK (.int 3), bVar 1], fCall (m2 min2D) [fK (.int 5), bVar 1]]) (f2 modD (f2 ixD (bVar 0) (fK (.int 0))) (fK (.int 4))))) (gSeq (gOwn 3 (fLst [fK (.str "ax"), fK (.str "bo"), fK (.str "cy"), fK (.str "dot"), fK (.str "elk"), fK (.str "fig"), fK (.str "gnu"), fK (.str "hop")])) (gSeq (gOwn 4 (fLst [])) (gSeq (gFor (sRng (fVar 2)) (gN 5) (B_law_cord_1)) (gFrz 4 (gRet (fCall m_law_tied [fVar 4, fCut (bVar 0) (some (fK (.int 10))) (some (fK (.int 26)))]))))))
def m_law_cord : Fn := runQ false 8 [false, false] (G_law_cord m_law_tied)
def G_law_is_strand (m_law_number : Fn) : G := gSeq (gIf (tOr (tNot (tOf (f1 (isInst .tuple) (bVar 0)))) (tOr (tOf (f2 neD (fCall (m1 lenD) [bVar 0]) (fK (.int 2)))) (tNot (tOf (f1 (isInst .str) (f2 ixD (bVar 0) (fK (.int 0)))))))) (gRet (fK (.bool false))) (gSkip)) (gSeq (gIf (tOr (tNot (tOf (fChain leD leD (fK (.int 1)) (fCall (m1 lenD) [f2 ixD (bVar 0) (fK (.int 0))]) (fK (.int 8))))) (tOf (f2 neD (fLc [1] (sSeq (f2 ixD (bVar 0) (fK (.int 0)))) (gN 1) (tOf (f2 notInD (bVar 1) (fK (.str "abcdefghijklmnopqrstuvwxyz")))) (fVar 1)) (fLst [])))) (gRet (fK (.bool false))) (gSkip)) (gRet (fCall m_law_number [f2 ixD (bVar 0) (fK (.int 1)), fK (.int 1), fK (.int 99)])))
def m_law_is_strand : Fn := runQ false 2 [false] (G_law_is_strand m_law_number)
def B_law_names_of_1 (m_law_names_of : Fn) : G := gSet 1 (f2 addD (bVar 1) (fCall m_law_names_of [fVar 2]))
def G_law_names_of (m_law_is_strand : Fn) (m_law_names_of : Fn) : G := gSeq (gIf (tOf (fCall m_law_is_strand [fVar 0])) (gRet (fLst [f2 ixD (bVar 0) (fK (.int 0))])) (gSkip)) (gSeq (gIf (tOr (tNot (tOf (f1 (isInst .tuple) (bVar 0)))) (tOf (f2 ltD (fCall (m1 lenD) [bVar 0]) (fK (.int 2))))) (gRet (fLst [fK .none])) (gSkip)) (gSeq (gSet 1 (fLst [])) (gSeq (gFor (sSeq (fVar 0)) (gN 2) (B_law_names_of_1 m_law_names_of)) (gRet (fVar 1)))))
def mf_law_names_of : Nat → Fn
  | 0 => fun _ => none
  | n + 1 => runQ false 3 [false] (G_law_names_of m_law_is_strand (mf_law_names_of n))
def m_law_names_of : Fn := mf_law_names_of 24
def G_law_is_cord (m_law_names_of : Fn) : G := gSeq (gSet 1 (fCall m_law_names_of [fVar 0])) (gRet (fAnd (f2 notInD (fK .none) (bVar 1)) (fAnd (f2 leD (fCall (m1 lenD) [bVar 1]) (fK (.int 8))) (f2 eqD (f1 lenSetD (bVar 1)) (fCall (m1 lenD) [bVar 1])))))
def m_law_is_cord : Fn := runQ false 2 [false] (G_law_is_cord m_law_names_of)
def B_parted_by_1 : G := gPar 2 3 false false (fVar 3) (f2 modD (bVar 2) (bVar 3))
def G_parted_by : G := gSeq (gPar 2 3 false false (f2 ixD (bVar 0) (fK (.int 0))) (f2 mulD (f2 ixD (bVar 0) (fK (.int 1))) (bVar 1))) (gSeq (gPar 4 5 false false (fVar 2) (fVar 3)) (gSeq (gWhile 1000000000000000000000000 (tOf (f2 gtD (bVar 3) (fK (.int 0)))) (B_parted_by_1)) (gRet (fTup [f2 divD (bVar 4) (bVar 2), f2 divD (bVar 5) (bVar 2)]))))
def m_parted_by : Fn := runQ false 6 [false, false] (G_parted_by)
def G_greatest (m_is_one : Fn) (m_greatest : Fn) : G := gSeq (gIf (tOf (fCall m_is_one [fVar 0])) (gRet (f2 ixD (bVar 0) (fK (.int 1)))) (gSkip)) (gSeq (gSet 1 (f1 revD (fCall (m1 sortD) [fLc [2] (sSeq (fVar 0)) (gN 2) (tYes) (fCall m_greatest [fVar 2])]))) (gRet (fCall (m1 maxD) [fLc [3, 4] (sEnum (fVar 1)) (gT2 3 4) (tYes) (f2 mulD (f2 addD (bVar 3) (fK (.int 1))) (bVar 4))])))
def mf_greatest : Nat → Fn
  | 0 => fun _ => none
  | n + 1 => runQ false 5 [false] (G_greatest m_is_one (mf_greatest n))
def m_greatest : Fn := mf_greatest 24
def B_shares_1 (m_shares : Fn) (m_parted_by : Fn) : G := gIf (tOf (f2 neD (bVar 4) (fLst []))) (gUpd 7 (fCall m_shares [fVar 3, fCall m_parted_by [fVar 1, f2 ixD (bVar 4) (f1 negD (fK (.int 1)))]])) (gSkip)
def G_shares (m_is_one : Fn) (m_greatest : Fn) (m_parted_by : Fn) (m_shares : Fn) : G := gSeq (gIf (tOf (fCall m_is_one [fVar 0])) (gRet (fIf (tOf (f2 leD (f2 ixD (bVar 1) (fK (.int 0))) (f2 mulD (f2 ixD (bVar 0) (fK (.int 1))) (f2 ixD (bVar 1) (fK (.int 1)))))) (fDict1 (f2 ixD (bVar 0) (fK (.int 0))) (fVar 1)) (fK (.dict [])))) (gSkip)) (gSeq (gSet 2 (f1 revD (fCall (m1 sortD) [fLc [3] (sSeq (fVar 0)) (gN 3) (tYes) (fCall m_greatest [fVar 3])]))) (gSeq (gSet 4 (fLc [5, 6] (sEnum (fVar 2)) (gT2 5 6) (tOf (f2 leD (f2 ixD (bVar 1) (fK (.int 0))) (f2 mulD (f2 mulD (f2 addD (bVar 5) (fK (.int 1))) (bVar 6)) (f2 ixD (bVar 1) (fK (.int 1)))))) (f2 addD (bVar 5) (fK (.int 1))))) (gSeq (gOwn 7 (fK (.dict []))) (gSeq (gFor (sSeq (fVar 0)) (gN 3) (B_shares_1 m_shares m_parted_by)) (gFrz 7 (gRet (fVar 7)))))))
def mf_shares : Nat → Fn
  | 0 => fun _ => none
  | n + 1 => runQ false 8 [false, false] (G_shares m_is_one m_greatest m_parted_by (mf_shares n))
def m_shares : Fn := mf_shares 24
def G_holding (m_shares : Fn) : G := gRet (fCall (m1 tupD) [fCall (m1 sortD) [fCall m_shares [fVar 0, fVar 1]]])
def m_holding : Fn := runQ false 2 [false, false] (G_holding m_shares)
def G_bears (m_shares : Fn) : G := gRet (f1 sortItemsD (fCall m_shares [fVar 0, fVar 1]))
def m_bears : Fn := runQ true 2 [false, false] (G_bears m_shares)
def B_borne_1 (m_borne : Fn) (m_parted_by : Fn) : G := gUpd 6 (fCall m_borne [fVar 4, fCall m_parted_by [fVar 1, fCall (m1 lenD) [bVar 3]], bVar 2])
def G_borne (m_is_one : Fn) (m_strands_of : Fn) (m_parted_by : Fn) (m_borne : Fn) : G := gSeq (gIf (tOf (fCall m_is_one [fVar 0])) (gRet (fIf (tOf (f2 inD (f2 ixD (bVar 0) (fK (.int 0))) (bVar 2))) (fK (.dict [])) (fDict1 (f2 ixD (bVar 0) (fK (.int 0))) (fVar 1)))) (gSkip)) (gSeq (gSet 3 (fLc [4] (sSeq (fVar 0)) (gN 4) (tOf (fCall (m1 anyD) [fLc [5] (sSeq (fCall m_strands_of [fVar 4])) (gN 5) (tYes) (f2 notInD (f2 ixD (bVar 5) (fK (.int 0))) (bVar 2))])) (fVar 4))) (gSeq (gOwn 6 (fK (.dict []))) (gSeq (gFor (sSeq (fVar 3)) (gN 4) (B_borne_1 m_borne m_parted_by)) (gFrz 6 (gRet (fVar 6))))))
def mf_borne : Nat → Fn
  | 0 => fun _ => none
  | n + 1 => runQ false 7 [false, false, true] (G_borne m_is_one m_strands_of m_parted_by (mf_borne n))
def m_borne : Fn := mf_borne 24
def G_too_much (m_borne : Fn) (m_strands_of : Fn) : G := gSeq (gSet 3 (fCall m_borne [fVar 0, fVar 1, bVar 2])) (gRet (fCall (m1 sortD) [fLc [4, 5] (sSeq (fCall m_strands_of [fVar 0])) (gT2 4 5) (tAnd (tOf (f2 inD (bVar 4) (bVar 3))) (tOf (f2 gtD (f2 ixD (f2 ixD (bVar 3) (bVar 4)) (fK (.int 0))) (f2 mulD (bVar 5) (f2 ixD (f2 ixD (bVar 3) (bVar 4)) (fK (.int 1))))))) (fVar 4)]))
def m_too_much : Fn := runQ false 6 [false, false, true] (G_too_much m_borne m_strands_of)
def B_rounds_1 (m_too_much : Fn) : G := gSeq (gApp 2 (fCall (m1 tupD) [bVar 4])) (gSeq (gSet 3 (f2 addD (bVar 3) (bVar 4))) (gSet 4 (fCall m_too_much [fVar 0, fVar 1, bVar 3])))
def G_rounds (m_too_much : Fn) : G := gSeq (gPar 2 3 true false (fLst []) (fLst [])) (gSeq (gSet 4 (fCall m_too_much [fVar 0, fVar 1, bVar 3])) (gSeq (gWhile 1000000000000000000000000 (tOf (f2 neD (bVar 4) (fLst []))) (B_rounds_1 m_too_much)) (gRetOwn 2)))
def m_rounds : Fn := runQ true 5 [false, false] (G_rounds m_too_much)
def B_is_breaking_1 (m_too_much : Fn) : G := gSeq (gIf (tOr (tNot (tOf (f1 (isInst .str) (bVar 4)))) (tOf (f2 notInD (bVar 4) (fCall m_too_much [fVar 0, fVar 1, bVar 3])))) (gRet (fK (.bool false))) (gSkip)) (gApp 3 (fVar 4))
def G_is_breaking (m_too_much : Fn) : G := gSeq (gIf (tNot (tOf (f1 (isInst .list) (bVar 2)))) (gRet (fK (.bool false))) (gSkip)) (gSeq (gOwn 3 (fLst [])) (gSeq (gFor (sSeq (fVar 2)) (gN 4) (B_is_breaking_1 m_too_much)) (gRet (f2 eqD (fCall m_too_much [fVar 0, fVar 1, bVar 3]) (fLst [])))))
def m_is_breaking : Fn := runQ false 5 [false, false, false] (G_is_breaking m_too_much)
def B_law_lowest_1 : G := gPar 2 3 false false (fVar 3) (f2 modD (bVar 2) (bVar 3))
def G_law_lowest : G := gSeq (gPar 2 3 false false (fVar 0) (fVar 1)) (gSeq (gWhile 1000000000000000000000000 (tOf (f2 gtD (bVar 3) (fK (.int 0)))) (B_law_lowest_1)) (gRet (fTup [f2 divD (bVar 0) (bVar 2), f2 divD (bVar 1) (bVar 2)])))
def m_law_lowest : Fn := runQ false 4 [false, false] (G_law_lowest)
def G_law_load (m_law_lowest : Fn) : G := gSeq (gPar 2 3 false false (f2 modD (f2 ixD (bVar 0) (fK (.int 0))) (f2 addD (bVar 1) (fK (.int 3)))) (f2 ixD (fLst [fK (.int 1), fK (.int 2), fK (.int 3), f2 addD (fK (.int 1)) (f2 modD (f2 ixD (bVar 0) (fK (.int 1))) (fK (.int 7)))]) (f2 modD (f2 ixD (bVar 0) (fK (.int 2))) (fK (.int 4))))) (gRet (fCall m_law_lowest [f2 addD (f2 mulD (bVar 2) (bVar 3)) (f2 mulD (f2 ixD (fLst [fK (.int 0), fK (.int 1), f2 subD (fK (.int 0)) (fK (.int 1))]) (f2 modD (f2 ixD (bVar 0) (fK (.int 3))) (fK (.int 3)))) (fCall (m1 intD) [f2 gtD (bVar 2) (fK (.int 0))])), fVar 3]))
def m_law_load : Fn := runQ false 4 [false, false] (G_law_load m_law_lowest)
def B_law_strands_1 (m_law_strands : Fn) : G := gSet 1 (f2 addD (bVar 1) (fCall m_law_strands [fVar 2]))
def G_law_strands (m_law_strands : Fn) : G := gSeq (gIf (tOf (f1 (isInst .str) (f2 ixD (bVar 0) (fK (.int 0))))) (gRet (fLst [fVar 0])) (gSkip)) (gSeq (gSet 1 (fLst [])) (gSeq (gFor (sSeq (fVar 0)) (gN 2) (B_law_strands_1 m_law_strands)) (gRet (fVar 1))))
def mf_law_strands : Nat → Fn
  | 0 => fun _ => none
  | n + 1 => runQ false 3 [false] (G_law_strands (mf_law_strands n))
def m_law_strands : Fn := mf_law_strands 24
def B_law_counts_1 : G := gPut 5 (fVar 6) (f2 mulD (fCall (m1 lenD) [bVar 2]) (f2 ixD (bVar 4) (bVar 6)))
def B_law_counts_2 : G := gFor (sSeq (fVar 4)) (gN 6) (B_law_counts_1)
def G_law_counts (m_law_counts : Fn) : G := gSeq (gIf (tOf (f1 (isInst .str) (f2 ixD (bVar 0) (fK (.int 0))))) (gRet (fIf (tOf (f2 inD (f2 ixD (bVar 0) (fK (.int 0))) (bVar 1))) (fDict1 (f2 ixD (bVar 0) (fK (.int 0))) (fK (.int 1))) (fK (.dict [])))) (gSkip)) (gSeq (gSet 2 (fLc [3] (sSeq (fVar 0)) (gN 3) (tYes) (fCall m_law_counts [fVar 3, bVar 1]))) (gSeq (gSet 2 (fLc [4] (sSeq (fVar 2)) (gN 4) (tOf (f2 neD (bVar 4) (fK (.dict [])))) (fVar 4))) (gSeq (gOwn 5 (fK (.dict []))) (gSeq (gFor (sSeq (fVar 2)) (gN 4) (B_law_counts_2)) (gFrz 5 (gRet (fVar 5)))))))
def mf_law_counts : Nat → Fn
  | 0 => fun _ => none
  | n + 1 => runQ false 7 [false, true] (G_law_counts (mf_law_counts n))
def m_law_counts : Fn := mf_law_counts 24
def G_law_over (m_law_counts : Fn) (m_law_strands : Fn) : G := gSeq (gSet 3 (fCall m_law_counts [fVar 0, bVar 2])) (gSeq (gSet 4 (fCall (m1 dictD) [fCall m_law_strands [fVar 0]])) (gRet (fCall (m1 sortD) [fLc [5] (sSeq (fVar 3)) (gN 5) (tOf (f2 gtD (f2 ixD (bVar 1) (fK (.int 0))) (f2 mulD (f2 mulD (f2 ixD (bVar 4) (bVar 5)) (f2 ixD (bVar 1) (fK (.int 1)))) (f2 ixD (bVar 3) (bVar 5))))) (fVar 5)])))
def m_law_over : Fn := runQ false 6 [false, false, true] (G_law_over m_law_counts m_law_strands)
def B_law_held_1 (m_law_over : Fn) : G := gSeq (gSet 3 (fCall m_law_over [fVar 0, fVar 1, bVar 2])) (gSet 2 (fLc [4] (sSeq (fVar 2)) (gN 4) (tOf (f2 notInD (bVar 4) (bVar 3))) (fVar 4)))
def G_law_held (m_law_over : Fn) : G := gSeq (gSet 2 (fCall (m1 sortD) [bVar 2])) (gSeq (gWhile 1000000000000000000000000 (tOf (f2 neD (fCall m_law_over [fVar 0, fVar 1, bVar 2]) (fLst []))) (B_law_held_1 m_law_over)) (gRet (fCall (m1 tupD) [bVar 2])))
def m_law_held : Fn := runQ false 5 [false, false, false] (G_law_held m_law_over)
def G_law_names (m_law_strands : Fn) : G := gRet (fCall (m1 sortD) [fLc [1, 2] (sSeq (fCall m_law_strands [fVar 0])) (gT2 1 2) (tYes) (fVar 1)])
def m_law_names : Fn := runQ true 3 [false] (G_law_names m_law_strands)
def B_law_rounds_1 (m_law_over : Fn) : G := gSeq (gApp 3 (fCall (m1 tupD) [fCall m_law_over [fVar 0, fVar 1, bVar 2]])) (gSet 2 (fLc [4] (sSeq (fVar 2)) (gN 4) (tOf (f2 notInD (bVar 4) (f2 ixD (bVar 3) (f1 negD (fK (.int 1)))))) (fVar 4)))
def G_law_rounds (m_law_names : Fn) (m_law_over : Fn) : G := gSeq (gPar 2 3 false true (fCall m_law_names [fVar 0]) (fLst [])) (gSeq (gWhile 1000000000000000000000000 (tOf (f2 neD (fCall m_law_over [fVar 0, fVar 1, bVar 2]) (fLst []))) (B_law_rounds_1 m_law_over)) (gFrz 3 (gRet (fVar 3))))
def m_law_rounds : Fn := runQ false 5 [false, false] (G_law_rounds m_law_names m_law_over)
def B_law_broken_1 (m_law_over : Fn) : G := gSeq (gSet 6 (fCall m_law_over [fVar 0, fVar 1, bVar 3])) (gIf (tOf (f2 neD (bVar 6) (fLst []))) (gSeq (gApp 4 (f2 ixD (bVar 6) (f2 modD (bVar 5) (fCall (m1 lenD) [bVar 6])))) (gRem 3 (f2 ixD (bVar 4) (f1 negD (fK (.int 1)))))) (gSkip))
def G_law_broken (m_law_names : Fn) (m_law_over : Fn) : G := gSeq (gPar 3 4 true true (fCall m_law_names [fVar 0]) (fLst [])) (gSeq (gFor (sSeq (fCut (bVar 2) (none) (some (fK (.int 9))))) (gN 5) (B_law_broken_1 m_law_over)) (gFrz 4 (gRet (fTup [fVar 4, fCall (m1 tupD) [bVar 3]]))))
def m_law_broken : Fn := runQ false 7 [false, false, false] (G_law_broken m_law_names m_law_over)
def B_law_is_breaking_1 (m_law_over : Fn) : G := gSeq (gIf (tOr (tNot (tOf (f1 (isInst .str) (bVar 4)))) (tOf (f2 notInD (bVar 4) (fCall m_law_over [fVar 0, fVar 1, bVar 3])))) (gRet (fK (.bool false))) (gSkip)) (gRem 3 (fVar 4))
def G_law_is_breaking (m_law_names : Fn) (m_law_over : Fn) : G := gSeq (gIf (tNot (tOf (f1 (isInst .list) (bVar 2)))) (gRet (fK (.bool false))) (gSkip)) (gSeq (gOwn 3 (fCall m_law_names [fVar 0])) (gSeq (gFor (sSeq (fVar 2)) (gN 4) (B_law_is_breaking_1 m_law_over)) (gRet (f2 eqD (fCall m_law_over [fVar 0, fVar 1, bVar 3]) (fLst [])))))
def m_law_is_breaking : Fn := runQ false 5 [false, false, false] (G_law_is_breaking m_law_names m_law_over)
def B_law_drawn_1 (m_law_over : Fn) : G := gSeq (gSet 6 (fCall m_law_over [fVar 0, fVar 1, bVar 3])) (gIf (tOf (f2 neD (bVar 6) (fLst []))) (gSeq (gApp 4 (f2 ixD (bVar 6) (f2 modD (bVar 5) (fCall (m1 lenD) [bVar 6])))) (gRem 3 (f2 ixD (bVar 4) (f1 negD (fK (.int 1)))))) (gSkip))
def G_law_drawn (m_law_names : Fn) (m_law_over : Fn) : G := gSeq (gPar 3 4 true true (fCall m_law_names [fVar 0]) (fLst [])) (gSeq (gFor (sSeq (fCut (bVar 2) (none) (some (fK (.int 9))))) (gN 5) (B_law_drawn_1 m_law_over)) (gFrz 4 (gRet (fVar 4))))
def m_law_drawn : Fn := runQ false 7 [false, false, false] (G_law_drawn m_law_names m_law_over)
def G_least_shown (m_is_one : Fn) (m_least_shown : Fn) : G := gSeq (gIf (tOf (fCall m_is_one [fVar 0])) (gRet (fIf (tOf (f2 inD (f2 ixD (bVar 0) (fK (.int 0))) (bVar 1))) (f2 ixD (bVar 0) (fK (.int 1))) (fK .none))) (gSkip)) (gSeq (gSet 2 (fLc [3] (sSeq (fLc [4] (sSeq (fVar 0)) (gN 4) (tYes) (fCall m_least_shown [fVar 4, fVar 1]))) (gN 3) (tOf (f1 notNoneD (bVar 3))) (fVar 3))) (gRet (fIf (tOf (f2 neD (bVar 2) (fLst []))) (f2 mulD (fCall (m1 lenD) [bVar 2]) (fCall (m1 minD) [bVar 2])) (fK .none))))
def mf_least_shown : Nat → Fn
  | 0 => fun _ => none
  | n + 1 => runQ false 5 [false, false] (G_least_shown m_is_one (mf_least_shown n))
def m_least_shown : Fn := mf_least_shown 24
def G_shown (m_strands_of : Fn) (m_least_shown : Fn) : G := gSeq (gIf (tOr (tNot (tOf (f1 (isInst .tuple) (bVar 1)))) (tNot (tOf (fCall (m1 allD) [fLc [2] (sSeq (fVar 1)) (gN 2) (tYes) (f1 (isInst .str) (bVar 2))])))) (gRet (fK .none)) (gSkip)) (gSeq (gSet 3 (fLc [2, 4] (sSeq (fCall m_strands_of [fVar 0])) (gT2 2 4) (tYes) (fVar 2))) (gSeq (gIf (tOr (tOf (f2 eqD (bVar 1) (fTup []))) (tNot (tOf (fCall (m1 allD) [fLc [2] (sSeq (fVar 1)) (gN 2) (tYes) (f2 inD (bVar 2) (bVar 3))])))) (gRet (fK .none)) (gSkip)) (gSeq (gIf (tNot (tOf (fCall (m1 allD) [fLc [5, 6] (sZipS (fVar 1) (fCut (bVar 1) (some (fK (.int 1))) (none))) (gT2 5 6) (tYes) (f2 ltD (bVar 5) (bVar 6))]))) (gRet (fK .none)) (gSkip)) (gRet (fCall m_least_shown [fVar 0, fVar 1])))))
def m_shown : Fn := runQ false 7 [false, false] (G_shown m_strands_of m_least_shown)
def B_law_lots_1 : G := gSet 1 (f2 addD (bVar 1) (fLc [3] (sSeq (fVar 1)) (gN 3) (tYes) (f2 addD (bVar 3) (fTup [fVar 2]))))
def G_law_lots : G := gSeq (gSet 1 (fLst [fTup []])) (gSeq (gFor (sSeq (fVar 0)) (gN 2) (B_law_lots_1)) (gRet (fLc [4, 3] (sSeq (fCall (m1 sortD) [fLc [3] (sSeq (fVar 1)) (gN 3) (tYes) (fTup [fCall (m1 lenD) [bVar 3], fVar 3])])) (gT2 4 3) (tYes) (fVar 3))))
def m_law_lots : Fn := runQ false 5 [false] (G_law_lots)
def G_law_shown (m_law_names : Fn) (m_law_counts : Fn) (m_law_strands : Fn) : G := gSeq (gSet 2 (fCall m_law_names [fVar 0])) (gSeq (gIf (tOr (tNot (tOf (f1 (isInst .tuple) (bVar 1)))) (tOr (tOf (f2 eqD (bVar 1) (fTup []))) (tOf (f2 neD (fLc [3] (sSeq (fVar 1)) (gN 3) (tNot (tOf (f1 (isInst .str) (bVar 3)))) (fVar 3)) (fLst []))))) (gRet (fK .none)) (gSkip)) (gSeq (gIf (tOr (tOf (f2 neD (fCall (m1 lstD) [bVar 1]) (f1 sortSetD (bVar 1)))) (tOf (f2 neD (fLc [3] (sSeq (fVar 1)) (gN 3) (tOf (f2 notInD (bVar 3) (bVar 2))) (fVar 3)) (fLst [])))) (gRet (fK .none)) (gSkip)) (gSeq (gAsg (fTup [fCall m_law_counts [fVar 0, fCall (m1 lstD) [bVar 1]], fCall (m1 dictD) [fCall m_law_strands [fVar 0]]]) (gT2 4 5)) (gRet (fCall (m1 minD) [fLc [3] (sSeq (fVar 1)) (gN 3) (tYes) (f2 mulD (f2 ixD (bVar 4) (bVar 3)) (f2 ixD (bVar 5) (bVar 3)))])))))
def m_law_shown : Fn := runQ false 6 [false, false] (G_law_shown m_law_names m_law_counts m_law_strands)
def G_strength (m_greatest : Fn) : G := gRet (fCall m_greatest [fVar 0])
def m_strength : Fn := runQ false 1 [false] (G_strength m_greatest)
def B_last_loads_1 : G := gPut 3 (fVar 4) (fCall (m1 maxD) [fLc [6, 7] (sEnum (fVar 1)) (gT2 6 7) (tYes) (f2 mulD (f2 addD (bVar 6) (fK (.int 1))) (fCall (m2 min2D) [bVar 5, bVar 7]))])
def B_last_loads_2 (m_last_loads : Fn) : G := gFor (sItems (fCall m_last_loads [fVar 2])) (gT2 4 5) (B_last_loads_1)
def G_last_loads (m_is_one : Fn) (m_greatest : Fn) (m_last_loads : Fn) : G := gSeq (gIf (tOf (fCall m_is_one [fVar 0])) (gRet (fDict1 (f2 ixD (bVar 0) (fK (.int 0))) (f2 ixD (bVar 0) (fK (.int 1))))) (gSkip)) (gSeq (gSet 1 (f1 revD (fCall (m1 sortD) [fLc [2] (sSeq (fVar 0)) (gN 2) (tYes) (fCall m_greatest [fVar 2])]))) (gSeq (gOwn 3 (fK (.dict []))) (gSeq (gFor (sSeq (fVar 0)) (gN 2) (B_last_loads_2 m_last_loads)) (gFrz 3 (gRet (fVar 3))))))
def mf_last_loads : Nat → Fn
  | 0 => fun _ => none
  | n + 1 => runQ false 8 [false] (G_last_loads m_is_one m_greatest (mf_last_loads n))
def m_last_loads : Fn := mf_last_loads 24
def G_lasts (m_last_loads : Fn) : G := gRet (f1 sortItemsD (fCall m_last_loads [fVar 0]))
def m_lasts : Fn := runQ true 1 [false] (G_lasts m_last_loads)
def G_law_weak (m_law_weak : Fn) : G := gSeq (gIf (tOf (f1 (isInst .str) (f2 ixD (bVar 0) (fK (.int 0))))) (gRet (fTup [f2 ixD (bVar 0) (fK (.int 0)), fIf (tOf (f2 eqD (f2 ixD (bVar 0) (fK (.int 0))) (bVar 1))) (fVar 2) (f2 ixD (bVar 0) (fK (.int 1)))])) (gSkip)) (gRet (fCall (m1 tupD) [fLc [3] (sSeq (fVar 0)) (gN 3) (tYes) (fCall m_law_weak [fVar 3, fVar 1, fVar 2])]))
def mf_law_weak : Nat → Fn
  | 0 => fun _ => none
  | n + 1 => runQ false 4 [false, false, false] (G_law_weak (mf_law_weak n))
def m_law_weak : Fn := mf_law_weak 24
def G_law_times (m_law_times : Fn) : G := gSeq (gIf (tOf (f1 (isInst .str) (f2 ixD (bVar 0) (fK (.int 0))))) (gRet (fTup [f2 ixD (bVar 0) (fK (.int 0)), f2 mulD (bVar 1) (f2 ixD (bVar 0) (fK (.int 1)))])) (gSkip)) (gRet (fCall (m1 tupD) [fLc [2] (sSeq (fVar 0)) (gN 2) (tYes) (fCall m_law_times [fVar 2, fVar 1])]))
def mf_law_times : Nat → Fn
  | 0 => fun _ => none
  | n + 1 => runQ false 3 [false, false] (G_law_times (mf_law_times n))
def m_law_times : Fn := mf_law_times 24
def B_law_no_more_1 : G := gIf (tOr (tOf (f2 notInD (bVar 3) (bVar 2))) (tOf (f2 ltD (f2 mulD (f2 ixD (bVar 4) (fK (.int 0))) (f2 ixD (f2 ixD (bVar 2) (bVar 3)) (fK (.int 1)))) (f2 mulD (f2 ixD (f2 ixD (bVar 2) (bVar 3)) (fK (.int 0))) (f2 ixD (bVar 4) (fK (.int 1))))))) (gRet (fK (.bool false))) (gSkip)
def G_law_no_more : G := gSeq (gSet 2 (fCall (m1 dictD) [bVar 0])) (gSeq (gFor (sSeq (fVar 1)) (gT2 3 4) (B_law_no_more_1)) (gRet (fK (.bool true))))
def m_law_no_more : Fn := runQ false 5 [false, false] (G_law_no_more)
def B_wanted_1 (m_wanted : Fn) (m_parted_by : Fn) : G := gSeq (gSet 5 (fCut (fCall (m1 sortD) [fLc [6] (sSeq (fVar 0)) (gN 6) (tYes) (fCall m_wanted [fVar 6, fCall m_parted_by [fVar 1, fVar 4]])]) (none) (some (bVar 4)))) (gSeq (gSet 7 (fCall (m1 tupD) [fCall (m1 sortD) [fLc2 [8, 9, 10] (sSeq (fVar 5)) (gT2 8 9) tYes [10] (sSeq (fVar 9)) (gN 10) tYes (fVar 10)]])) (gApp 3 (fTup [fCall (m1 sumD) [fLc [8, 9] (sSeq (fVar 5)) (gT2 8 9) (tYes) (fVar 8)], fVar 7])))
def G_wanted (m_is_one : Fn) (m_parted_by : Fn) (m_wanted : Fn) : G := gSeq (gIf (tOf (fCall m_is_one [fVar 0])) (gSeq (gSet 2 (fCall (m2 max2D) [fK (.int 0), f2 subD (f2 subD (fK (.int 0)) (f2 divD (f2 subD (fK (.int 0)) (f2 ixD (bVar 1) (fK (.int 0)))) (f2 ixD (bVar 1) (fK (.int 1))))) (f2 ixD (bVar 0) (fK (.int 1)))])) (gRet (fTup [fVar 2, fIf (tOf (f2 gtD (bVar 2) (fK (.int 0)))) (fTup [fTup [f2 ixD (bVar 0) (fK (.int 0)), fVar 2]]) (fTup [])]))) (gSkip)) (gSeq (gOwn 3 (fLst [])) (gSeq (gFor (sRng2 (fK (.int 1)) (f2 addD (fCall (m1 lenD) [bVar 0]) (fK (.int 1)))) (gN 4) (B_wanted_1 m_wanted m_parted_by)) (gRet (fCall (m1 minD) [bVar 3]))))
def mf_wanted : Nat → Fn
  | 0 => fun _ => none
  | n + 1 => runQ false 11 [false, false] (G_wanted m_is_one m_parted_by (mf_wanted n))
def m_wanted : Fn := mf_wanted 24
def G_least_added (m_wanted : Fn) : G := gRet (fCall m_wanted [fVar 0, fVar 1])
def m_least_added : Fn := runQ false 2 [false, false] (G_least_added m_wanted)
def G_law_with (m_law_with : Fn) : G := gSeq (gIf (tOf (f1 (isInst .str) (f2 ixD (bVar 0) (fK (.int 0))))) (gRet (fTup [f2 ixD (bVar 0) (fK (.int 0)), f2 addD (f2 ixD (bVar 0) (fK (.int 1))) (fGet (bVar 1) (f2 ixD (bVar 0) (fK (.int 0))) (fK (.int 0)))])) (gSkip)) (gRet (fCall (m1 tupD) [fLc [2] (sSeq (fVar 0)) (gN 2) (tYes) (fCall m_law_with [fVar 2, fVar 1])]))
def mf_law_with : Nat → Fn
  | 0 => fun _ => none
  | n + 1 => runQ false 3 [false, false] (G_law_with (mf_law_with n))
def m_law_with : Fn := mf_law_with 24
def B_law_lacking_1 : G := gIf (tOf (f2 inD (bVar 5) (bVar 3))) (gSeq (gSet 7 (f2 mulD (f2 ixD (bVar 1) (fK (.int 1))) (f2 ixD (bVar 3) (bVar 5)))) (gSet 4 (f2 addD (bVar 4) (fCall (m2 max2D) [fK (.int 0), f2 subD (f2 divD (f2 subD (f2 addD (f2 ixD (bVar 1) (fK (.int 0))) (bVar 7)) (fK (.int 1))) (bVar 7)) (bVar 6)])))) (gSkip)
def G_law_lacking (m_law_counts : Fn) (m_law_strands : Fn) : G := gSeq (gPar 3 4 false false (fCall m_law_counts [fVar 0, fCall (m1 lstD) [bVar 2]]) (fK (.int 0))) (gSeq (gFor (sSeq (fCall m_law_strands [fVar 0])) (gT2 5 6) (B_law_lacking_1)) (gRet (fVar 4)))
def m_law_lacking : Fn := runQ false 8 [false, false, false] (G_law_lacking m_law_counts m_law_strands)
def G_changed (m_is_one : Fn) (m_changed : Fn) : G := gSeq (gIf (tOf (fCall m_is_one [fVar 0])) (gRet (fTup [f2 ixD (bVar 0) (fK (.int 0)), fGet (bVar 1) (f2 ixD (bVar 0) (fK (.int 0))) (f2 ixD (bVar 0) (fK (.int 1)))])) (gSkip)) (gRet (fCall (m1 tupD) [fLc [2] (sSeq (fVar 0)) (gN 2) (tYes) (fCall m_changed [fVar 2, fVar 1])]))
def mf_changed : Nat → Fn
  | 0 => fun _ => none
  | n + 1 => runQ false 3 [false, false] (G_changed m_is_one (mf_changed n))
def m_changed : Fn := mf_changed 24
def B_lots_1 : G := gSet 2 (fLc2 [4, 5] (sSeq (fVar 2)) (gN 4) tYes [5] (sRng2 (fIf (tOf (f2 neD (bVar 4) (fTup []))) (f2 addD (f2 ixD (bVar 4) (f1 negD (fK (.int 1)))) (fK (.int 1))) (fK (.int 0))) (fCall (m1 lenD) [bVar 0])) (gN 5) tYes (f2 addD (bVar 4) (fTup [fVar 5])))
def G_lots : G := gSeq (gSet 2 (fLst [fTup []])) (gSeq (gFor (sRng (fVar 1)) (gN 3) (B_lots_1)) (gRet (fLc [4] (sSeq (fVar 2)) (gN 4) (tYes) (fCall (m1 tupD) [fLc [5] (sSeq (fVar 4)) (gN 5) (tYes) (f2 ixD (bVar 0) (bVar 5))]))))
def m_lots : Fn := runQ false 6 [false, false] (G_lots)
def B_fewest_cut_1 (m_holding : Fn) (m_changed : Fn) : G := gIf (tOf (f2 eqD (fCall m_holding [fCall m_changed [fVar 0, fDc [3] (sSeq (fVar 6)) (gN 3) (fVar 3) (f1 negD (fK (.int 1)))], fVar 1]) (fTup []))) (gRet (fVar 6)) (gSkip)
def B_fewest_cut_2 (m_lots : Fn) (m_holding : Fn) (m_changed : Fn) : G := gFor (sSeq (fCall m_lots [fVar 2, fVar 5])) (gN 6) (B_fewest_cut_1 m_holding m_changed)
def G_fewest_cut (m_strands_of : Fn) (m_lots : Fn) (m_changed : Fn) (m_holding : Fn) : G := gSeq (gSet 2 (fCall (m1 sortD) [fLc [3, 4] (sSeq (fCall m_strands_of [fVar 0])) (gT2 3 4) (tYes) (fVar 3)])) (gSeq (gFor (sRng (fCall (m1 lenD) [bVar 2])) (gN 5) (B_fewest_cut_2 m_lots m_holding m_changed)) (gRet (fCall (m1 tupD) [bVar 2])))
def m_fewest_cut : Fn := runQ false 7 [false, false] (G_fewest_cut m_strands_of m_lots m_changed m_holding)
def G_law_falls (m_law_names : Fn) (m_law_held : Fn) : G := gRet (f2 eqD (fCall m_law_held [fVar 0, fVar 1, fLc [3] (sSeq (fCall m_law_names [fVar 0])) (gN 3) (tOf (f2 notInD (bVar 3) (bVar 2))) (fVar 3)]) (fTup []))
def m_law_falls : Fn := runQ false 4 [false, false, false] (G_law_falls m_law_names m_law_held)
def G_does (m_changed : Fn) (m_holding : Fn) : G := gRet (f2 inD (bVar 3) (fCall m_holding [fCall m_changed [fVar 0, fDict1 (fVar 2) (fVar 4)], fVar 1]))
def m_does : Fn := runQ false 5 [false, false, false, false, false] (G_does m_changed m_holding)
def B_least_of_1 (m_does : Fn) : G := gSeq (gSet 6 (f2 divD (f2 addD (bVar 4) (bVar 5)) (fK (.int 2)))) (gIf (tOf (fCall m_does [fVar 0, fVar 1, fVar 2, fVar 3, fVar 6])) (gSet 5 (fVar 6)) (gSet 4 (f2 addD (bVar 6) (fK (.int 1)))))
def G_least_of (m_does : Fn) : G := gSeq (gPar 4 5 false false (fK (.int 1)) (fCall (m2 max2D) [fK (.int 1), f2 subD (fK (.int 0)) (f2 divD (f2 subD (fK (.int 0)) (f2 ixD (bVar 1) (fK (.int 0)))) (f2 ixD (bVar 1) (fK (.int 1))))])) (gSeq (gIf (tNot (tOf (fCall m_does [fVar 0, fVar 1, fVar 2, fVar 3, fVar 5]))) (gRet (fK .none)) (gSkip)) (gSeq (gWhile 1000000000000000000000000 (tOf (f2 ltD (bVar 4) (bVar 5))) (B_least_of_1 m_does)) (gRet (fVar 4))))
def m_least_of : Fn := runQ false 7 [false, false, false, false] (G_least_of m_does)
def G_law_does (m_law_weak : Fn) (m_law_names : Fn) (m_law_held : Fn) : G := gRet (f2 inD (bVar 3) (fCall m_law_held [fCall m_law_weak [fVar 0, fVar 2, fVar 4], fVar 1, fCall m_law_names [fVar 0]]))
def m_law_does : Fn := runQ false 5 [false, false, false, false, false] (G_law_does m_law_weak m_law_names m_law_held)
def G_parting (m_last_loads : Fn) : G := gSeq (gAsg (fTup [fCall m_last_loads [fVar 0], fCall m_last_loads [fVar 1]]) (gT2 2 3)) (gSeq (gSet 4 (fLc [5] (sSeq (fVar 2)) (gN 5) (tOf (f2 neD (f2 ixD (bVar 2) (bVar 5)) (f2 ixD (bVar 3) (bVar 5)))) (fCall (m2 min2D) [f2 ixD (bVar 2) (bVar 5), f2 ixD (bVar 3) (bVar 5)]))) (gRet (fIf (tOf (f2 neD (bVar 4) (fLst []))) (fCall (m1 minD) [bVar 4]) (fK .none))))
def m_parting : Fn := runQ false 6 [false, false] (G_parting m_last_loads)
def G_law_turned (m_law_turned : Fn) : G := gSeq (gIf (tOf (f1 (isInst .str) (f2 ixD (bVar 0) (fK (.int 0))))) (gRet (fVar 0)) (gSkip)) (gRet (fCall (m1 tupD) [fLc [1] (sSeq (f1 revD (bVar 0))) (gN 1) (tYes) (fCall m_law_turned [fVar 1])]))
def mf_law_turned : Nat → Fn
  | 0 => fun _ => none
  | n + 1 => runQ false 2 [false] (G_law_turned (mf_law_turned n))
def m_law_turned : Fn := mf_law_turned 24
def B_broken_rows_1 (m_too_much : Fn) : G := gSeq (gPar 5 3 false false (f2 addD (bVar 5) (bVar 6)) (f2 addD (bVar 3) (bVar 6))) (gSet 6 (fCall m_too_much [fVar 0, fVar 4, bVar 3]))
def B_broken_rows_2 (m_too_much : Fn) : G := gSeq (gSet 5 (fLst [])) (gSeq (gSet 6 (fCall m_too_much [fVar 0, fVar 4, bVar 3])) (gSeq (gWhile 1000000000000000000000000 (tOf (f2 neD (bVar 6) (fLst []))) (B_broken_rows_1 m_too_much)) (gApp 2 (fCall (m1 tupD) [fCall (m1 sortD) [bVar 5]]))))
def G_broken_rows (m_too_much : Fn) : G := gSeq (gPar 2 3 true false (fLst []) (fLst [])) (gSeq (gFor (sSeq (fVar 1)) (gN 4) (B_broken_rows_2 m_too_much)) (gRetOwn 2))
def m_broken_rows : Fn := runQ true 7 [false, false] (G_broken_rows m_too_much)
def G_behind (m_broken_rows : Fn) (m_strands_of : Fn) : G := gSeq (gSet 2 (fLc2 [3, 4] (sSeq (fCall m_broken_rows [fVar 0, fVar 1])) (gN 3) tYes [4] (sSeq (fVar 3)) (gN 4) tYes (fVar 4))) (gRet (fCall (m1 tupD) [fCall (m1 sortD) [fLc [4, 5] (sSeq (fCall m_strands_of [fVar 0])) (gT2 4 5) (tOf (f2 notInD (bVar 4) (bVar 2))) (fVar 4)]]))
def m_behind : Fn := runQ false 6 [false, false] (G_behind m_broken_rows m_strands_of)
def G_broken_by (m_broken_rows : Fn) : G := gRet (fCall m_broken_rows [fVar 0, fVar 1])
def m_broken_by : Fn := runQ true 2 [false, false] (G_broken_by m_broken_rows)
def B_first_fall_1 : G := gSeq (gSet 2 (f2 subD (bVar 2) (fCall (m1 lenD) [bVar 4]))) (gIf (tOf (f2 eqD (bVar 2) (fK (.int 0)))) (gRet (fVar 3)) (gSkip))
def G_first_fall (m_strands_of : Fn) (m_broken_rows : Fn) : G := gSeq (gSet 2 (fCall (m1 lenD) [fCall m_strands_of [fVar 0]])) (gSeq (gFor (sEnum (fCall m_broken_rows [fVar 0, fVar 1])) (gT2 3 4) (B_first_fall_1)) (gRet (fK .none)))
def m_first_fall : Fn := runQ false 5 [false, false] (G_first_fall m_strands_of m_broken_rows)
def B_law_behind_1 (m_law_held : Fn) : G := gSeq (gSet 2 (fCall (m1 lstD) [fCall m_law_held [fVar 0, fVar 4, fVar 2]])) (gApp 3 (fCall (m1 tupD) [bVar 2]))
def G_law_behind (m_law_names : Fn) (m_law_held : Fn) : G := gSeq (gPar 2 3 false true (fCall m_law_names [fVar 0]) (fLst [])) (gSeq (gFor (sSeq (fVar 1)) (gN 4) (B_law_behind_1 m_law_held)) (gFrz 3 (gRet (fVar 3))))
def m_law_behind : Fn := runQ false 5 [false, false] (G_law_behind m_law_names m_law_held)
def G_law_given (m_law_given : Fn) : G := gSeq (gIf (tOf (f1 (isInst .str) (f2 ixD (bVar 0) (fK (.int 0))))) (gRet (fTup [f2 ixD (bVar 0) (fK (.int 0)), f2 ixD (bVar 1) (f2 ixD (bVar 0) (fK (.int 0)))])) (gSkip)) (gRet (fCall (m1 tupD) [fLc [2] (sSeq (fVar 0)) (gN 2) (tYes) (fCall m_law_given [fVar 2, fVar 1])]))
def mf_law_given : Nat → Fn
  | 0 => fun _ => none
  | n + 1 => runQ false 3 [false, false] (G_law_given (mf_law_given n))
def m_law_given : Fn := mf_law_given 24
def G_law_loads (m_law_load : Fn) : G := gRet (fCall (m1 tupD) [fLc [3] (sRng (fVar 1)) (gN 3) (tYes) (fCall m_law_load [fCut (bVar 0) (some (f2 mulD (fK (.int 4)) (bVar 3))) (some (f2 addD (f2 mulD (fK (.int 4)) (bVar 3)) (fK (.int 4)))), fVar 2])])
def m_law_loads : Fn := runQ false 4 [false, false, false] (G_law_loads m_law_load)
def B_law_greatest_1 : G := gIf (tOf (f2 gtD (f2 mulD (f2 ixD (bVar 2) (fK (.int 0))) (f2 ixD (bVar 1) (fK (.int 1)))) (f2 mulD (f2 ixD (bVar 1) (fK (.int 0))) (f2 ixD (bVar 2) (fK (.int 1)))))) (gSet 1 (fVar 2)) (gSkip)
def G_law_greatest : G := gSeq (gSet 1 (fTup [fK (.int 0), fK (.int 1)])) (gSeq (gFor (sSeq (fVar 0)) (gN 2) (B_law_greatest_1)) (gRet (fVar 1)))
def m_law_greatest : Fn := runQ false 3 [false] (G_law_greatest)
def B_power_1 : G := gSet 2 (f2 mulD (bVar 2) (bVar 0))
def G_power : G := gSeq (gSet 2 (fK (.int 1))) (gSeq (gFor (sRng (fVar 1)) (gN 3) (B_power_1)) (gRet (fVar 2)))
def m_power : Fn := runQ false 4 [false, false] (G_power)
def B_taken_1 : G := gSeq (gSet 6 (f2 subD (f2 ixD (bVar 5) (fK (.int 1))) (f2 ixD (bVar 1) (bVar 4)))) (gSet 3 (fLc2 [7, 8] (sSeq (fVar 3)) (gN 7) tYes [8] (sRng (f2 addD (fCall (m2 min2D) [bVar 6, f2 subD (bVar 2) (fCall (m1 sumD) [bVar 7])]) (fK (.int 1)))) (gN 8) tYes (f2 addD (bVar 7) (fTup [fVar 8]))))
def G_taken : G := gSeq (gSet 3 (fLst [fTup []])) (gSeq (gFor (sEnum (fVar 0)) (gT2 4 5) (B_taken_1)) (gRet (fVar 3)))
def m_taken : Fn := runQ false 9 [false, false, false] (G_taken)
def B_choose_1 : G := gSet 2 (f2 divD (f2 mulD (bVar 2) (f2 subD (bVar 0) (bVar 3))) (f2 addD (bVar 3) (fK (.int 1))))
def G_choose : G := gSeq (gSet 2 (fK (.int 1))) (gSeq (gFor (sRng (fVar 1)) (gN 3) (B_choose_1)) (gRet (fVar 2)))
def m_choose : Fn := runQ false 4 [false, false] (G_choose)
def B_ways_of_1 (m_choose : Fn) (m_power : Fn) : G := gSet 4 (f2 mulD (f2 mulD (bVar 4) (fCall m_choose [f2 subD (f2 ixD (bVar 6) (fK (.int 1))) (f2 ixD (bVar 1) (bVar 5)), f2 ixD (bVar 2) (bVar 5)])) (fCall m_power [f2 ixD (f2 ixD (bVar 6) (fK (.int 0))) (bVar 3), f2 ixD (bVar 2) (bVar 5)]))
def G_ways_of (m_choose : Fn) (m_power : Fn) : G := gSeq (gSet 4 (fK (.int 1))) (gSeq (gFor (sEnum (fVar 0)) (gT2 5 6) (B_ways_of_1 m_choose m_power)) (gRet (fVar 4)))
def m_ways_of : Fn := runQ false 7 [false, false, false, false] (G_ways_of m_choose m_power)
def B_fallen_ways_1 (m_ways_of : Fn) : G := gSeq (gSet 10 (fCall (m1 tupD) [fLc [11, 12] (sZipS (fVar 8) (fVar 9)) (gT2 11 12) (tYes) (f2 addD (bVar 11) (bVar 12))])) (gPut 7 (fVar 10) (f2 addD (fGet (bVar 7) (fVar 10) (fK (.int 0))) (f2 mulD (f2 ixD (bVar 4) (bVar 8)) (fCall m_ways_of [fVar 1, fVar 8, fVar 9, fVar 6]))))
def B_fallen_ways_2 (m_taken : Fn) (m_ways_of : Fn) : G := gFor (sSeq (fCall m_taken [fVar 1, fVar 8, f2 subD (bVar 6) (fCall (m1 sumD) [bVar 8])])) (gN 9) (B_fallen_ways_1 m_ways_of)
def B_fallen_ways_3 (m_taken : Fn) (m_ways_of : Fn) : G := gSeq (gOwn 7 (fK (.dict []))) (gSeq (gFor (sSeq (fVar 4)) (gN 8) (B_fallen_ways_2 m_taken m_ways_of)) (gFrz 7 (gSet 4 (fVar 7))))
def B_fallen_ways_4 (m_ways_of : Fn) : G := gSeq (gSet 14 (fCall (m1 tupD) [fLc [5, 11] (sZipS (fVar 1) (fVar 8)) (gT2 5 11) (tYes) (f2 subD (f2 ixD (bVar 5) (fK (.int 1))) (bVar 11))])) (gSet 13 (f2 addD (bVar 13) (f2 mulD (f2 ixD (bVar 4) (bVar 8)) (fCall m_ways_of [fVar 1, fVar 8, fVar 14, fCall (m1 lenD) [bVar 0]]))))
def G_fallen_ways (m_taken : Fn) (m_ways_of : Fn) : G := gSeq (gSet 1 (fLc [2, 3] (sEnum (fVar 0)) (gT2 2 3) (tOf (f2 notInD (bVar 3) (fCut (bVar 0) (none) (some (bVar 2))))) (fTup [fVar 3, f2 countD (bVar 0) (bVar 3)]))) (gSeq (gSet 4 (fDict1 (fCall (m1 tupD) [fLc [5] (sSeq (fVar 1)) (gN 5) (tYes) (fK (.int 0))]) (fK (.int 1)))) (gSeq (gFor (sRng (fCall (m1 lenD) [bVar 0])) (gN 6) (B_fallen_ways_3 m_taken m_ways_of)) (gSeq (gSet 13 (fK (.int 0))) (gSeq (gFor (sSeq (fVar 4)) (gN 8) (B_fallen_ways_4 m_ways_of)) (gRet (fVar 13))))))
def m_fallen_ways : Fn := runQ false 15 [false] (G_fallen_ways m_taken m_ways_of)
def B_classes_1 (m_held_ways : Fn) (m_parted_by : Fn) (m_power : Fn) (m_strands_of : Fn) : G := gSeq (gSet 6 (f2 addD (fLst [fK (.int 0)]) (fLc [7] (sRng2 (fK (.int 1)) (f2 addD (bVar 3) (fK (.int 1)))) (gN 7) (tYes) (fCall m_held_ways [fVar 5, fCall m_parted_by [fVar 1, fVar 7], fVar 2])))) (gSeq (gSet 8 (f2 subD (fCall m_power [fVar 2, fCall (m1 lenD) [fCall m_strands_of [fVar 5]]]) (f2 ixD (bVar 6) (f1 negD (fK (.int 1)))))) (gApp 4 (f2 addD (fLc [9, 10] (sZipS (fVar 6) (fCut (bVar 6) (some (fK (.int 1))) (none))) (gT2 9 10) (tYes) (f2 subD (bVar 10) (bVar 9))) (fLst [fVar 8]))))
def G_classes (m_parted_by : Fn) (m_held_ways : Fn) (m_strands_of : Fn) (m_power : Fn) : G := gSeq (gPar 3 4 false true (fCall (m1 lenD) [bVar 0]) (fLst [])) (gSeq (gFor (sSeq (fVar 0)) (gN 5) (B_classes_1 m_held_ways m_parted_by m_power m_strands_of)) (gFrz 4 (gRet (fVar 4))))
def m_classes (m_held_ways : Fn) : Fn := runQ false 11 [false, false, false] (G_classes m_parted_by m_held_ways m_strands_of m_power)
def G_held_ways (m_is_one : Fn) (m_strands_of : Fn) (m_power : Fn) (m_classes : Fn) (m_fallen_ways : Fn) : G := gSeq (gIf (tOf (fCall m_is_one [fVar 0])) (gSeq (gSet 3 (fCall (m2 max2D) [fK (.int 1), f2 subD (fK (.int 0)) (f2 divD (f2 subD (fK (.int 0)) (f2 ixD (bVar 1) (fK (.int 0)))) (f2 ixD (bVar 1) (fK (.int 1))))])) (gRet (fCall (m2 max2D) [fK (.int 0), f2 addD (f2 subD (bVar 2) (bVar 3)) (fK (.int 1))]))) (gSkip)) (gRet (f2 subD (fCall m_power [fVar 2, fCall (m1 lenD) [fCall m_strands_of [fVar 0]]]) (fCall m_fallen_ways [fCall m_classes [fVar 0, fVar 1, fVar 2]])))
def mf_held_ways : Nat → Fn
  | 0 => fun _ => none
  | n + 1 => runQ false 4 [false, false, false] (G_held_ways m_is_one m_strands_of m_power (m_classes (mf_held_ways n)) m_fallen_ways)
def m_held_ways : Fn := mf_held_ways 24
def G_count_ways (m_held_ways : Fn) : G := gRet (fCall m_held_ways [fVar 0, fVar 1, fVar 2])
def m_count_ways : Fn := runQ false 3 [false, false, false] (G_count_ways m_held_ways)
def G_ways_share (m_held_ways : Fn) (m_strands_of : Fn) (m_power : Fn) (m_parted_by : Fn) : G := gRet (fCall m_parted_by [fTup [fCall m_held_ways [fVar 0, fVar 1, fVar 2], fK (.int 1)], fCall m_power [fVar 2, fCall (m1 lenD) [fCall m_strands_of [fVar 0]]]])
def m_ways_share : Fn := runQ false 3 [false, false, false] (G_ways_share m_held_ways m_strands_of m_power m_parted_by)
def B_half_load_1 (m_held_ways : Fn) : G := gSeq (gSet 5 (f2 divD (f2 addD (f2 addD (bVar 2) (bVar 3)) (fK (.int 1))) (fK (.int 2)))) (gIf (tOf (f2 geD (f2 mulD (fK (.int 2)) (fCall m_held_ways [fVar 0, fTup [fVar 5, fK (.int 1)], fVar 1])) (bVar 4))) (gSet 2 (fVar 5)) (gSet 3 (f2 subD (bVar 5) (fK (.int 1)))))
def G_half_load (m_strands_of : Fn) (m_power : Fn) (m_held_ways : Fn) : G := gSeq (gPar 2 3 false false (fK (.int 0)) (f2 mulD (bVar 1) (fCall (m1 lenD) [fCall m_strands_of [fVar 0]]))) (gSeq (gSet 4 (fCall m_power [fVar 1, fCall (m1 lenD) [fCall m_strands_of [fVar 0]]])) (gSeq (gWhile 1000000000000000000000000 (tOf (f2 ltD (bVar 2) (bVar 3))) (B_half_load_1 m_held_ways)) (gRet (fVar 2))))
def m_half_load : Fn := runQ false 6 [false, false] (G_half_load m_strands_of m_power m_held_ways)
def B_law_all_given_1 : G := gSeq (gOwn 7 (fCall (m1 dictD) [bVar 5])) (gSeq (gPut 7 (fVar 3) (fVar 6)) (gFrz 7 (gApp 4 (fVar 7))))
def B_law_all_given_2 : G := gFor (sRng2 (fK (.int 1)) (f2 addD (bVar 1) (fK (.int 1)))) (gN 6) (B_law_all_given_1)
def B_law_all_given_3 : G := gSeq (gOwn 4 (fLst [])) (gSeq (gFor (sSeq (fVar 2)) (gN 5) (B_law_all_given_2)) (gFrz 4 (gSet 2 (fVar 4))))
def G_law_all_given (m_law_names : Fn) (m_law_given : Fn) : G := gSeq (gSet 2 (fLst [fK (.dict [])])) (gSeq (gFor (sSeq (fCall m_law_names [fVar 0])) (gN 3) (B_law_all_given_3)) (gRet (fLc [5] (sSeq (fVar 2)) (gN 5) (tYes) (fCall m_law_given [fVar 0, fVar 5]))))
def m_law_all_given : Fn := runQ false 8 [false, false] (G_law_all_given m_law_names m_law_given)
def G_law_renamed (m_law_renamed : Fn) : G := gSeq (gIf (tOf (f1 (isInst .str) (f2 ixD (bVar 0) (fK (.int 0))))) (gRet (fTup [f2 addD (fK (.str "z")) (f2 ixD (bVar 0) (fK (.int 0))), f2 ixD (bVar 0) (fK (.int 1))])) (gSkip)) (gRet (fCall (m1 tupD) [fLc [1] (sSeq (fVar 0)) (gN 1) (tYes) (fCall m_law_renamed [fVar 1])]))
def mf_law_renamed : Nat → Fn
  | 0 => fun _ => none
  | n + 1 => runQ false 2 [false] (G_law_renamed (mf_law_renamed n))
def m_law_renamed : Fn := mf_law_renamed 24
def B_law_power_1 : G := gSet 2 (f2 mulD (bVar 2) (bVar 0))
def G_law_power : G := gSeq (gSet 2 (fK (.int 1))) (gSeq (gFor (sRng (fVar 1)) (gN 3) (B_law_power_1)) (gRet (fVar 2)))
def m_law_power : Fn := runQ false 4 [false, false] (G_law_power)
def G_steps (m_lasts : Fn) : G := gSeq (gSet 1 (fCall m_lasts [fVar 0])) (gSeq (gSet 2 (f1 sortSetD (fLc [3, 4] (sSeq (fVar 1)) (gT2 3 4) (tYes) (fVar 4)))) (gRet (fLc [4] (sSeq (fVar 2)) (gN 4) (tYes) (fTup [fVar 4, fCall (m1 tupD) [fLc [3, 5] (sSeq (fVar 1)) (gT2 3 5) (tOf (f2 geD (bVar 5) (bVar 4))) (fVar 3)]]))))
def m_steps : Fn := runQ true 6 [false] (G_steps m_lasts)
def G_load_for (m_lasts : Fn) : G := gRet (f2 ixD (fCall (m1 sortD) [fLc [2, 3] (sSeq (fCall m_lasts [fVar 0])) (gT2 2 3) (tYes) (fVar 3)]) (f1 negD (bVar 1)))
def m_load_for : Fn := runQ false 4 [false, false] (G_load_for m_lasts)
def G_law_alone (m_behind : Fn) (m_steps : Fn) (m_first_fall : Fn) (m_load_for : Fn) (m_broken_by : Fn) (m_count_ways : Fn) (m_half_load : Fn) : G := gSeq (gSet 2 (fTup [fK (.str "a"), fVar 0])) (gSeq (gSet 3 (f2 leD (bVar 1) (bVar 0))) (gSeq (gIf (tOr (tOf (f2 neD (fCall m_behind [fVar 2, fTup [fTup [fVar 1, fK (.int 1)]]]) (fIf (tOf (fVar 3)) (fTup [fK (.str "a")]) (fTup [])))) (tOf (f2 neD (fCall m_steps [fVar 2]) (fLst [fTup [fVar 0, fTup [fK (.str "a")]]])))) (gRet (fK (.bool false))) (gSkip)) (gSeq (gIf (tOr (tOf (f2 neD (fCall m_first_fall [fVar 2, fTup [fTup [fK (.int 0), fK (.int 1)], fTup [fVar 1, fK (.int 1)]]]) (fIf (tOf (fVar 3)) (fK .none) (fK (.int 1))))) (tOf (f2 neD (fCall m_load_for [fVar 2, fK (.int 1)]) (bVar 0)))) (gRet (fK (.bool false))) (gSkip)) (gSeq (gIf (tOf (f2 neD (fCall m_broken_by [fVar 2, fTup [fTup [fVar 1, fK (.int 1)], fTup [fVar 1, fK (.int 1)]]]) (fLst [fIf (tOf (fVar 3)) (fTup []) (fTup [fK (.str "a")]), fTup []]))) (gRet (fK (.bool false))) (gSkip)) (gRet (fAnd (f2 eqD (fCall m_count_ways [fVar 2, fTup [fVar 1, fK (.int 1)], fK (.int 99)]) (fIf (tOf (f2 eqD (bVar 1) (fK (.int 0)))) (fK (.int 99)) (fCall (m2 max2D) [fK (.int 0), f2 subD (fK (.int 100)) (bVar 1)]))) (f2 eqD (fCall m_half_load [fVar 2, fK (.int 99)]) (fK (.int 50)))))))))
def m_law_alone : Fn := runQ false 4 [false, false] (G_law_alone m_behind m_steps m_first_fall m_load_for m_broken_by m_count_ways m_half_load)
def G_law_alike (m_steps : Fn) (m_load_for : Fn) (m_broken_by : Fn) (m_first_fall : Fn) (m_behind : Fn) : G := gSeq (gSet 2 (fCall (m1 tupD) [fCut (fLst [fK (.str "a"), fK (.str "b"), fK (.str "c"), fK (.str "d"), fK (.str "e"), fK (.str "f"), fK (.str "g"), fK (.str "h")]) (none) (some (bVar 1))])) (gSeq (gSet 3 (fCall (m1 tupD) [fLc [4] (sSeq (fVar 2)) (gN 4) (tYes) (fTup [fVar 4, fVar 0])])) (gSeq (gSet 5 (f2 mulD (bVar 1) (bVar 0))) (gSeq (gIf (tOr (tOf (f2 neD (fCall m_steps [fVar 3]) (fLst [fTup [fVar 5, fVar 2]]))) (tOf (f2 neD (fLc [6] (sRng (fVar 1)) (gN 6) (tYes) (fCall m_load_for [fVar 3, f2 addD (bVar 6) (fK (.int 1))])) (f2 mulD (fLst [fVar 5]) (bVar 1))))) (gRet (fK (.bool false))) (gSkip)) (gSeq (gIf (tOf (f2 neD (fCall m_broken_by [fVar 3, fTup [fTup [fVar 5, fK (.int 1)], fTup [f2 addD (bVar 5) (fK (.int 1)), fK (.int 1)], fTup [fK (.int 1), fK (.int 1)]]]) (fLst [fTup [], fVar 2, fTup []]))) (gRet (fK (.bool false))) (gSkip)) (gRet (fAnd (f2 eqD (fCall m_first_fall [fVar 3, fTup [fTup [fVar 5, fK (.int 1)], fTup [f2 addD (f2 mulD (fK (.int 2)) (bVar 5)) (fK (.int 1)), fK (.int 2)]]]) (fK (.int 1))) (f2 eqD (fCall m_behind [fVar 3, f2 repD (fTup [fTup [fVar 5, fK (.int 1)]]) (fK (.int 40))]) (bVar 2))))))))
def m_law_alike : Fn := runQ false 7 [false, false] (G_law_alike m_steps m_load_for m_broken_by m_first_fall m_behind)
end Mi
set_option maxRecDepth 100000
/-! Mirrors of the defs of k09, printed by gen.py. -/
namespace Mi
open PySem Pu
def B_law_1 (m_least_of : Fn) (m_law_does : Fn) (m_law_number : Fn) : G := gSeq (gSet 10 (fCall m_least_of [fVar 3, fVar 6, fVar 8, fVar 9])) (gIf (tOf (f1 isNoneD (bVar 10))) (gIf (tOr (tOf (fCall m_law_does [fVar 3, fVar 6, fVar 8, fVar 9, fVar 7])) (tOf (fCall m_law_does [fVar 3, fVar 6, fVar 8, fVar 9, fK (.int 1)]))) (gRet (fK (.bool false))) (gSkip)) (gSeq (gIf (tOr (tNot (tOf (fCall m_law_number [fVar 10, fK (.int 1), fVar 7]))) (tNot (tOf (fCall m_law_does [fVar 3, fVar 6, fVar 8, fVar 9, fVar 10])))) (gRet (fK (.bool false))) (gSkip)) (gSeq (gIf (tAnd (tOf (f2 gtD (bVar 10) (fK (.int 1)))) (tOf (fCall m_law_does [fVar 3, fVar 6, fVar 8, fVar 9, f2 subD (bVar 10) (fK (.int 1))]))) (gRet (fK (.bool false))) (gSkip)) (gIf (tNot (tOf (fCall m_law_does [fVar 3, fVar 6, fVar 8, fVar 9, f2 addD (f2 addD (bVar 10) (fK (.int 1))) (f2 modD (f2 ixD (bVar 4) (fK (.int 20))) (fK (.int 50)))]))) (gRet (fK (.bool false))) (gSkip)))))
def B_law_2 (m_least_of : Fn) (m_law_does : Fn) (m_law_number : Fn) : G := gFor (sSeq (fVar 5)) (gN 9) (B_law_1 m_least_of m_law_does m_law_number)
def B_law_3 (m_law_draws : Fn) (m_law_cord : Fn) (m_law_names : Fn) (m_law_load : Fn) (m_strength : Fn) (m_least_of : Fn) (m_law_does : Fn) (m_law_number : Fn) : G := gSeq (gSet 2 (fCall m_law_draws [fVar 0, fVar 1, fK (.int 60), fK (.int 27720)])) (gSeq (gSet 3 (fCall m_law_cord [fVar 2, fK (.int 8)])) (gSeq (gSet 4 (fCall m_law_draws [fVar 0, f2 addD (bVar 1) (fK (.int 1)), fK (.int 60), fK (.int 27720)])) (gSeq (gSet 5 (fCall m_law_names [fVar 3])) (gSeq (gSet 6 (fCall m_law_load [fVar 4, f2 ixD (fLst [fCall m_strength [fVar 3], f2 mulD (fK (.int 3)) (fCall m_strength [fVar 3])]) (f2 modD (f2 ixD (bVar 4) (fK (.int 9))) (fK (.int 2)))])) (gSeq (gSet 7 (f2 powD (fK (.int 10)) (fK (.int 6)))) (gFor (sSeq (fVar 5)) (gN 8) (B_law_2 m_least_of m_law_does m_law_number)))))))
def G_law (m_law_draws : Fn) (m_law_cord : Fn) (m_law_names : Fn) (m_strength : Fn) (m_law_load : Fn) (m_least_of : Fn) (m_law_does : Fn) (m_law_number : Fn) : G := gSeq (gFor (sSeq (fTup [fK (.int 0), fK (.int 2), fK (.int 4), fK (.int 6)])) (gN 1) (B_law_3 m_law_draws m_law_cord m_law_names m_law_load m_strength m_least_of m_law_does m_law_number)) (gSeq (gIf (tOf (f2 neD (fCall m_least_of [fTup [fK (.str "a"), fK (.int 5)], fTup [fK (.int 7), fK (.int 2)], fK (.str "a"), fK (.str "a")]) (fK (.int 4)))) (gRet (fK (.bool false))) (gSkip)) (gSeq (gSet 3 (fTup [fTup [fK (.str "a"), fK (.int 1)], fTup [fK (.str "b"), fK (.int 3)]])) (gRet (fAnd (f2 eqD (fCall m_least_of [fVar 3, fTup [fK (.int 4), fK (.int 1)], fK (.str "a"), fK (.str "b")]) (fK (.int 2))) (f1 isNoneD (fCall m_least_of [fVar 3, fTup [fK (.int 7), fK (.int 1)], fK (.str "a"), fK (.str "b")]))))))
def m_law : Fn := runQ false 11 [false] (G_law m_law_draws m_law_cord m_law_names m_strength m_law_load m_least_of m_law_does m_law_number)
end Mi
set_option maxRecDepth 100000
/-! The combinators' values, step by step. -/
namespace Pu
open PySem
theorem nr {α : Sort _} {a b : α} (h : a = b) : a = b := h
def seqK : Option Out → G → Option Out
  | some (.nx ρ), h => h ρ
  | some (.rt d), _ => some (.rt d)
  | none, _ => none
def nxK (ρ : Rho) (i : Nat) : Option Slot → Option Out
  | some s => some (.nx (ρ.set i s))
  | none => none
def vK : Option D → Option Slot
  | some d => some (.val d)
  | none => none
def oK : Option D → Option Slot
  | some d => some (.own d)
  | none => none
def rtK : Option D → Option Out
  | some d => some (.rt d)
  | none => none
def ifK : Option Bool → Option Out → Option Out → Option Out
  | some b, x, y => if b then x else y
  | none, _, _ => none
def vaK : Slot → Option D
  | .val d => some d
  | .bor d => if isCon d then none else some d
  | _ => none
def vbK : Slot → Option D
  | .val d => some d
  | .bor d => some d
  | .own d => some d
  | .no => none
def o1K (op : D → Option D) : Option D → Option D
  | some x => op x
  | none => none
def o2K (op : D → D → Option D) : Option D → Option D → Option D
  | some x, some y => op x y
  | _, _ => none
def andK : Option D → F1 → Rho → Option D
  | some (.bool true), b, ρ => b ρ
  | some (.bool false), _, _ => some (.bool false)
  | _, _, _ => none
def orK : Option D → F1 → Rho → Option D
  | some (.bool false), b, ρ => b ρ
  | some (.bool true), _, _ => some (.bool true)
  | _, _, _ => none
def toK : Option D → Option Bool
  | some (.bool b) => some b
  | _ => none
def tandK : Option Bool → FB → Rho → Option Bool
  | some x, b, ρ => if x then b ρ else some false
  | none, _, _ => none
def torK : Option Bool → FB → Rho → Option Bool
  | some x, b, ρ => if x then some true else b ρ
  | none, _, _ => none
def notK : Option Bool → Option Bool
  | some b => some (!b)
  | none => none
def fifK : Option Bool → F1 → F1 → Rho → Option D
  | some x, a, b, ρ => if x then a ρ else b ρ
  | none, _, _, _ => none
def consK : Option D → Option (List D) → Option (List D)
  | some d, some ds => some (d :: ds)
  | _, _ => none
def tupK : Option (List D) → Option D
  | some ds => some (.tuple ds)
  | none => none
def lstK : Option (List D) → Option D
  | some ds => some (.list ds)
  | none => none
def callK (m : Fn) : Option (List D) → Option D
  | some ds => m ds
  | none => none
def seqsK : Option D → Option (List D)
  | some (.list ds) => some ds
  | some (.tuple ds) => some ds
  | some (.str x) => some (x.cps.toList.map fun c => .str ⟨#[c]⟩)
  | some (.dict kvs) => if notT kvs then some (kvs.map (·.1)) else none
  | _ => none
def forK (tg : TgF) (b : G) (ρ : Rho) : Option (List D) → Option Out
  | some ds => forL tg b ds ρ
  | none => none
def tgK : Option D → TgF → Rho → Option Out
  | some d, tg, ρ => (tg d ρ).map .nx
  | none, _, _ => none
def frzK (i : Nat) (g : G) (ρ : Rho) : Slot → Option Out
  | .own d => g (ρ.set i (.val d))
  | _ => none
def chK (o2 : D → D → Option D) (y z : Option D) : Option D → Option D
  | some (.bool true) => o2K o2 y z
  | some (.bool false) => some (.bool false)
  | _ => none
def lcK : Option (List D) → Option D
  | some r => if fitsL r.length then some (.list r) else none
  | none => none
def coK (tg : TgF) (t : FB) (e : F1) (ρ : Rho) : Option (List D) → Option (List D)
  | some ds => compL tg t e ρ ds
  | none => none
def endK (fr : Bool) : Option Out → Option D
  | some o => endQ fr o
  | none => none
def ptK (ρ : Rho) : Option F1 → Option (Option Int)
  | none => some none
  | some f => match f ρ with
    | some (.int i) => some (some i)
    | _ => none
def intK : Option D → Option (Option Int)
  | some (.int i) => some (some i)
  | _ => none
def cutK : Option D → Option (Option Int) → Option (Option Int) → Option D
  | some d, some l, some h => cutD l h d
  | _, _, _ => none
def appK (ρ : Rho) (i : Nat) : Slot → Option D → Option Out
  | .own (.list ds), some y => if decide (ds.length < sizeLine) then some (.nx (ρ.set i (.own (.list (ds ++ [y]))))) else none
  | _, _ => none
def rngK : Option D → Option (List D)
  | some (.int j) => if smallI j then some (rngL j.toNat 0) else none
  | _ => none
section
variable {g h : G} {ρ ρ' : Rho} {f a b : F1} {fs : List F1} {ta tb : FB} {i : Nat} {d e : D} {s : Slot} {r : Rho} {op o1 o2 : D → D → Option D} {op1 : D → Option D} {m : Fn} {ds : List D} {src : FA} {tg : TgF} {vs : List Nat} {fr : Bool} {n : Nat} {ms : List Bool}
theorem e_run : runQ fr n ms g ds = endK fr (g (pad n (slots ms ds))) := nr (by unfold runQ endK; cases g (pad n (slots ms ds)) <;> rfl)
theorem e_seq : gSeq g h ρ = seqK (g ρ) h := nr (by unfold gSeq seqK; cases g ρ with | none => rfl | some o => cases o <;> rfl)
theorem seq_nx : seqK (some (.nx ρ)) h = h ρ := nr rfl
theorem seq_rt : seqK (some (.rt d)) h = some (.rt d) := nr rfl
theorem seq_none : seqK none h = none := nr rfl
theorem e_skip : gSkip ρ = some (.nx ρ) := nr rfl
theorem e_set : gSet i f ρ = nxK ρ i (vK (f ρ)) := nr (by unfold gSet; cases f ρ <;> rfl)
theorem e_own : gOwn i f ρ = nxK ρ i (oK (f ρ)) := nr (by unfold gOwn; cases f ρ <;> rfl)
theorem nxK_some : nxK ρ i (some s) = some (.nx (ρ.set i s)) := nr rfl
theorem vK_some : vK (some d) = some (.val d) := nr rfl
theorem oK_some : oK (some d) = some (.own d) := nr rfl
theorem e_ret : gRet f ρ = rtK (f ρ) := nr (by unfold gRet; cases f ρ <;> rfl)
theorem rtK_some : rtK (some d) = some (.rt d) := nr rfl
theorem e_if : gIf ta g h ρ = ifK (ta ρ) (g ρ) (h ρ) := nr (by unfold gIf; cases ta ρ <;> rfl)
theorem ifK_some {b : Bool} {x y : Option Out} : ifK (some b) x y = if b then x else y := nr rfl
theorem e_fVar : fVar i ρ = vaK (atR ρ i) := nr (by unfold fVar; cases atR ρ i <;> rfl)
theorem e_bVar : bVar i ρ = vbK (atR ρ i) := nr (by unfold bVar; cases atR ρ i <;> rfl)
theorem va_val : vaK (.val d) = some d := nr rfl
theorem vb_val : vbK (.val d) = some d := nr rfl
theorem vb_own : vbK (.own d) = some d := nr rfl
theorem vb_bor : vbK (.bor d) = some d := nr rfl
theorem at_0 : atR (s :: r) 0 = s := nr rfl
theorem at_S : atR (s :: r) (n + 1) = atR r n := nr rfl
theorem set_0 {t : Slot} : List.set (s :: r) 0 t = t :: r := nr rfl
theorem set_S {t : Slot} : List.set (s :: r) (n + 1) t = s :: List.set r n t := nr rfl
theorem e_K : fK d ρ = some d := nr rfl
theorem e_f1 : f1 op1 a ρ = o1K op1 (a ρ) := nr (by unfold f1; cases a ρ <;> rfl)
theorem o1_some : o1K op1 (some d) = op1 d := nr rfl
theorem e_f2 : f2 op a b ρ = o2K op (a ρ) (b ρ) := nr (by unfold f2; cases a ρ <;> cases b ρ <;> rfl)
theorem o2_some : o2K op (some d) (some e) = op d e := nr rfl
theorem e_and : fAnd a b ρ = andK (a ρ) b ρ := nr (by unfold fAnd andK; rcases a ρ with _ | (_ | (_ | _) | _ | _ | _ | _ | _) <;> rfl)
theorem and_t : andK (some (.bool true)) b ρ = b ρ := nr rfl
theorem and_f : andK (some (.bool false)) b ρ = some (.bool false) := nr rfl
theorem and_b {x : Bool} : andK (some (.bool x)) b ρ = if x then b ρ else some (.bool false) := nr (by cases x <;> rfl)
theorem e_or : fOr a b ρ = orK (a ρ) b ρ := nr (by unfold fOr orK; rcases a ρ with _ | (_ | (_ | _) | _ | _ | _ | _ | _) <;> rfl)
theorem or_b {x : Bool} : orK (some (.bool x)) b ρ = if x then some (.bool true) else b ρ := nr (by cases x <;> rfl)
theorem e_tOf : tOf a ρ = toK (a ρ) := nr (by unfold tOf toK; rcases a ρ with _ | (_ | (_ | _) | _ | _ | _ | _ | _) <;> rfl)
theorem to_b {x : Bool} : toK (some (.bool x)) = some x := nr rfl
theorem e_tAnd : tAnd ta tb ρ = tandK (ta ρ) tb ρ := nr (by unfold tAnd; cases ta ρ <;> rfl)
theorem tand_b {x : Bool} : tandK (some x) tb ρ = if x then tb ρ else some false := nr rfl
theorem e_tOr : tOr ta tb ρ = torK (ta ρ) tb ρ := nr (by unfold tOr; cases ta ρ <;> rfl)
theorem tor_b {x : Bool} : torK (some x) tb ρ = if x then some true else tb ρ := nr rfl
theorem e_tNot : tNot ta ρ = notK (ta ρ) := nr (by unfold tNot; cases ta ρ <;> rfl)
theorem not_b {x : Bool} : notK (some x) = some (!x) := nr rfl
theorem e_tYes : tYes ρ = some true := nr rfl
theorem e_fIf : fIf ta a b ρ = fifK (ta ρ) a b ρ := nr (by unfold fIf; cases ta ρ <;> rfl)
theorem fif_b {x : Bool} : fifK (some x) a b ρ = if x then a ρ else b ρ := nr rfl
theorem e_nil : fArgs [] ρ = some [] := nr rfl
theorem e_cons : fArgs (f :: fs) ρ = consK (f ρ) (fArgs fs ρ) := nr (by show (f ρ).bind _ = _; cases f ρ <;> cases fArgs fs ρ <;> rfl)
theorem cons_some : consK (some d) (some ds) = some (d :: ds) := nr rfl
theorem e_tup : fTup fs ρ = tupK (fArgs fs ρ) := nr (by unfold fTup; cases fArgs fs ρ <;> rfl)
theorem tup_some : tupK (some ds) = some (.tuple ds) := nr rfl
theorem e_lst : fLst fs ρ = lstK (fArgs fs ρ) := nr (by unfold fLst; cases fArgs fs ρ <;> rfl)
theorem lst_some : lstK (some ds) = some (.list ds) := nr rfl
theorem e_call : fCall m fs ρ = callK m (fArgs fs ρ) := nr (by unfold fCall; cases fArgs fs ρ <;> rfl)
theorem call_some : callK m (some ds) = m ds := nr rfl
theorem e_m1 : m1 op1 [d] = op1 d := nr rfl
theorem e_m2 : m2 op [d, e] = op d e := nr rfl
theorem e_m3 {op3 : D → D → D → Option D} {x : D} : m3 op3 [d, e, x] = op3 d e x := nr rfl
theorem e_sSeq : sSeq a ρ = seqsK (a ρ) := nr (by unfold sSeq seqsK; rcases a ρ with _ | (_ | (_ | _) | _ | _ | _ | _ | _) <;> rfl)
theorem seqs_l : seqsK (some (.list ds)) = some ds := nr rfl
theorem seqs_t : seqsK (some (.tuple ds)) = some ds := nr rfl
theorem seqs_s {x : Str} : seqsK (some (.str x)) = some (x.cps.toList.map fun c => .str ⟨#[c]⟩) := nr rfl
theorem e_for : gFor src tg g ρ = forK tg g ρ (src ρ) := nr (by unfold gFor; cases src ρ <;> rfl)
theorem for_some : forK tg g ρ (some ds) = forL tg g ds ρ := nr rfl
theorem e_asg : gAsg f tg ρ = tgK (f ρ) tg ρ := nr (by unfold gAsg; cases f ρ <;> rfl)
theorem tg_some : tgK (some d) tg ρ = (tg d ρ).map .nx := nr rfl
theorem e_gN : gN i d ρ = some (ρ.set i (.val d)) := nr rfl
theorem e_gT2 {i j : Nat} {x y : D} : gT2 i j (.tuple [x, y]) ρ = some ((ρ.set i (.val x)).set j (.val y)) := nr rfl
theorem e_gT3 {i j k : Nat} {x y z : D} : gT3 i j k (.tuple [x, y, z]) ρ = some (((ρ.set i (.val x)).set j (.val y)).set k (.val z)) := nr rfl
theorem e_frz : gFrz i g ρ = frzK i g ρ (atR ρ i) := nr (by unfold gFrz; cases atR ρ i <;> rfl)
theorem frz_own : frzK i g ρ (.own d) = g (ρ.set i (.val d)) := nr rfl
theorem e_retOwn : gRetOwn i ρ = match atR ρ i with | .own d => some (.rt d) | _ => none := nr rfl
theorem e_chain {c : F1} : fChain o1 o2 a b c ρ = chK o2 (b ρ) (c ρ) (o2K o1 (a ρ) (b ρ)) := nr (by
  unfold fChain
  rcases a ρ with _ | x
  · rfl
  · rcases b ρ with _ | y
    · rfl
    · show (match o1 x y with | some (.bool true) => (c ρ).bind fun z => o2 y z | some (.bool false) => some (.bool false) | _ => none) = chK o2 (some y) (c ρ) (o1 x y)
      rcases o1 x y with _ | (_ | (_ | _) | _ | _ | _ | _ | _) <;> first | rfl | (cases c ρ <;> rfl))
theorem ch_b {x : Bool} {y z : Option D} : chK o2 y z (some (.bool x)) = if x then o2K o2 y z else some (.bool false) := nr (by cases x <;> rfl)
theorem e_lc {t : FB} {el : F1} : fLc vs src tg t el ρ = lcK (coK tg t el (wipeR ρ vs) (src ρ)) := nr (by unfold fLc; cases src ρ with | none => rfl | some ds => show ((compL tg t el (wipeR ρ vs) ds).bind _) = lcK (compL tg t el (wipeR ρ vs) ds); cases compL tg t el (wipeR ρ vs) ds <;> rfl)
theorem co_some {t : FB} {el : F1} : coK tg t el ρ (some ds) = compL tg t el ρ ds := nr rfl
theorem lc_some : lcK (some ds) = if fitsL ds.length then some (.list ds) else none := nr rfl
theorem wipe_nil : wipeR ρ [] = ρ := nr rfl
theorem wipe_cons {v : Nat} : wipeR ρ (v :: vs) = (wipeR ρ vs).set v .no := nr rfl
theorem end_rt : endK fr (some (.rt d)) = some d := nr rfl
theorem end_nx : endK false (some (.nx ρ)) = some .none := nr rfl
theorem pt_none : ptK ρ none = some none := nr rfl
theorem pt_some : ptK ρ (some f) = intK (f ρ) := nr (by show (match f ρ with | some (.int i) => some (some i) | _ => none) = _; rcases f ρ with _ | (_ | (_ | _) | _ | _ | _ | _ | _) <;> rfl)
theorem int_some {i : Int} : intK (some (.int i)) = some (some i) := nr rfl
theorem e_cut {l u : Option F1} : fCut a l u ρ = cutK (a ρ) (ptK ρ l) (ptK ρ u) := nr (by
  have e : ∀ o : Option F1, partO o ρ = ptK ρ o := fun o => by cases o <;> rfl
  unfold fCut
  rw [e, e]
  cases a ρ <;> cases ptK ρ l <;> cases ptK ρ u <;> rfl)
theorem cut_l {l u : Option Int} : cutK (some (.list ds)) (some l) (some u) = some (.list (cutL ds l u)) := nr rfl
theorem cut_t {l u : Option Int} : cutK (some (.tuple ds)) (some l) (some u) = some (.tuple (cutL ds l u)) := nr rfl
theorem e_app : gApp i f ρ = appK ρ i (atR ρ i) (f ρ) := nr (by
  unfold gApp
  rcases f ρ with _ | y <;> rcases atR ρ i with _ | _ | (_ | _ | _ | _ | _ | _ | _) | _ <;> rfl)
theorem app_some {y : D} (hl : ds.length < sizeLine) : appK ρ i (.own (.list ds)) (some y) = some (.nx (ρ.set i (.own (.list (ds ++ [y]))))) := by
  show (if decide _ = true then _ else _) = _
  rw [if_pos (decide_eq_true hl)]
theorem e_sRng : sRng a ρ = rngK (a ρ) := nr (by unfold sRng rngK; rcases a ρ with _ | (_ | (_ | _) | _ | _ | _ | _ | _) <;> rfl)
theorem rng_some {j : Int} (h : j < 4611686018427387904) (h0 : -4611686018427387904 ≤ j) : rngK (some (.int j)) = some (rngL j.toNat 0) := by
  show (if smallI j = true then _ else _) = _
  rw [if_pos (by unfold smallI; rw [Bool.and_eq_true, decide_eq_true_eq, decide_eq_true_eq]; exact ⟨h0, h⟩)]
theorem e_par {oi oj : Bool} {i j : Nat} : gPar i j oi oj a b ρ = match a ρ, b ρ with | some x, some y => some (.nx ((ρ.set i (if oi then .own x else .val x)).set j (if oj then .own y else .val y))) | _, _ => none := nr (by
  unfold gPar
  cases a ρ <;> cases b ρ <;> rfl)
theorem pad_0 {ss : List Slot} : pad n ss = ss ++ List.replicate (n - ss.length) .no := nr rfl
theorem sl_f {d : D} : slots (false :: ms) (d :: ds) = .val d :: slots ms ds := nr rfl
theorem sl_t {d : D} : slots (true :: ms) (d :: ds) = .bor d :: slots ms ds := nr rfl
theorem sl_nil : slots [] ds = [] := nr rfl
/-! operators on plain things -/
theorem add_i {x y : Int} : addD (.int x) (.int y) = some (.int (x + y)) := nr rfl
theorem add_l {x y : List D} (h : x.length + y.length ≤ sizeLine) : addD (.list x) (.list y) = some (.list (x ++ y)) := by
  show (if fitsL _ = true then _ else _) = _
  rw [if_pos (by unfold fitsL; exact decide_eq_true h)]
theorem add_t {x y : List D} (h : x.length + y.length ≤ sizeLine) : addD (.tuple x) (.tuple y) = some (.tuple (x ++ y)) := by
  show (if fitsL _ = true then _ else _) = _
  rw [if_pos (by unfold fitsL; exact decide_eq_true h)]
theorem sub_i {x y : Int} : subD (.int x) (.int y) = some (.int (x - y)) := nr rfl
theorem lt_i {x y : Int} : ltD (.int x) (.int y) = some (.bool (decide (x < y))) := nr rfl
theorem le_i {x y : Int} : leD (.int x) (.int y) = some (.bool (decide (x ≤ y))) := nr rfl
theorem gt_i {x y : Int} : gtD (.int x) (.int y) = some (.bool (decide (y < x))) := nr rfl
theorem ge_i {x y : Int} : geD (.int x) (.int y) = some (.bool (decide (y ≤ x))) := nr rfl
theorem neg_i {x : Int} : negD (.int x) = some (.int (-x)) := nr rfl
theorem not_d {x : Bool} : notD (.bool x) = some (.bool (!x)) := nr rfl
theorem len_l {x : List D} : lenD (.list x) = some (.int x.length) := nr rfl
theorem len_t {x : List D} : lenD (.tuple x) = some (.int x.length) := nr rfl
theorem ix_l {x : List D} {i : Int} : ixD (.list x) (.int i) = L2.atI x i := nr rfl
theorem ix_t {x : List D} {i : Int} : ixD (.tuple x) (.int i) = L2.atI x i := nr rfl
theorem max2_i {x y : Int} : max2D (.int x) (.int y) = some (.int (max x y)) := nr rfl
theorem min2_i {x y : Int} : min2D (.int x) (.int y) = some (.int (min x y)) := nr rfl
theorem tup_l {x : List D} : tupD (.list x) = some (.tuple x) := nr rfl
theorem tup_t {x : List D} : tupD (.tuple x) = some (.tuple x) := nr rfl
theorem lst_l {x : List D} : lstD (.list x) = some (.list x) := nr rfl
theorem lst_t {x : List D} : lstD (.tuple x) = some (.list x) := nr rfl
theorem rev_l {x : List D} : revD (.list x) = some (.list x.reverse) := nr rfl
theorem rev_t {x : List D} : revD (.tuple x) = some (.tuple x.reverse) := nr rfl
theorem bool_i {x : Int} : boolD (.int x) = some (.bool (x != 0)) := nr rfl
theorem bool_b {x : Bool} : boolD (.bool x) = some (.bool x) := nr rfl
theorem int_b {x : Bool} : intD (.bool x) = some (.int (if x then 1 else 0)) := nr rfl
theorem isn_n : isNoneD .none = some (.bool true) := nr rfl
end
end Pu
set_option maxRecDepth 100000
/-! Tools for the mirrors' values; draws. -/
namespace Fact
open PySem Pu


/-! ### indices -/
theorem atI_nat {α : Type} {xs : List α} {i : Nat} {x : α} (h : xs[i]? = some x) : L2.atI xs (i : Int) = some x := by
  obtain ⟨h1, _⟩ := List.getElem?_eq_some_iff.mp h
  unfold L2.atI L2.ixN
  rw [if_pos (by omega), if_pos (by omega)]
  exact h
theorem atI_mem {α : Type} {xs : List α} {i : Int} (h0 : 0 ≤ i) (h1 : i < xs.length) : ∃ x, x ∈ xs ∧ L2.atI xs i = some x := by
  obtain ⟨n, rfl⟩ := Int.eq_ofNat_of_zero_le h0
  have h2 : n < xs.length := by omega
  exact ⟨xs[n], List.getElem_mem h2, atI_nat (List.getElem?_eq_getElem h2)⟩
theorem atI_at {α : Type} {xs : List α} {i : Int} (h0 : 0 ≤ i) (h1 : i < xs.length) : ∃ x, xs[i.toNat]? = some x ∧ L2.atI xs i = some x := by
  obtain ⟨n, rfl⟩ := Int.eq_ofNat_of_zero_le h0
  have h2 : n < xs.length := by omega
  exact ⟨xs[n], List.getElem?_eq_getElem h2, atI_nat (List.getElem?_eq_getElem h2)⟩
theorem mod_ok {a b : Int} (h : 0 < b) : modD (.int a) (.int b) = some (.int (a % b)) := by simp only [modD]; rw [if_pos (by simpa using h)]
theorem div_ok {a b : Int} (h : 0 < b) (h2 : b < 18446744073709551616) : divD (.int a) (.int b) = some (.int (a / b)) := by
  have : divOk b = true := by unfold divOk; simp; omega
  simp [divD, this]
theorem mul_ok {a b : Int} (h : (-18446744073709551616 < a ∧ a < 18446744073709551616) ∨ (-18446744073709551616 < b ∧ b < 18446744073709551616)) : mulD (.int a) (.int b) = some (.int (a * b)) := by
  have : mulOk a b = true := by unfold mulOk; simp; omega
  simp [mulD, this]
theorem pow_ok {a b : Int} (h0 : 0 ≤ b) (h : b ≤ 1000) (h2 : a.natAbs < 18446744073709551616) : powD (.int a) (.int b) = some (.int (a ^ b.toNat)) := by simp only [powD]; rw [if_pos (by simp; omega)]
theorem eqB_int {a b : Int} : eqB (.int a) (.int b) = some (a == b) := by
  unfold eqB eqOk noDict
  simp [PyData.depth, PyData.eqv]
theorem eqB_str {a b : Str} : eqB (.str a) (.str b) = some (a == b) := by
  unfold eqB eqOk noDict
  simp [PyData.depth, PyData.eqv]
theorem eqB_bool {a b : Bool} : eqB (.bool a) (.bool b) = some (a == b) := by
  unfold eqB eqOk noDict
  simp [PyData.depth, PyData.eqv]
theorem fits_of {n : Nat} (h : n ≤ 16777216) : fitsL n = true := by
  unfold fitsL sizeLine
  simpa using h

/-! ### walks -/
theorem forL_rng {tg : TgF} {body : G} {I : Nat → Rho → Prop} {n : Nat} : ∀ {m : Nat} {lo : Int} {j : Nat} {ρ : Rho}, j + m = n → I j ρ →
    (∀ k ρ, j ≤ k → k < n → I k ρ → ∃ ρ1 ρ2, tg (.int (lo + ((k - j : Nat) : Int))) ρ = some ρ1 ∧ body ρ1 = some (.nx ρ2) ∧ I (k + 1) ρ2) →
    ∃ ρ', forL tg body (rngL m lo) ρ = some (.nx ρ') ∧ I n ρ'
  | 0, lo, j, ρ, e, h, st => ⟨ρ, rfl, by simpa [← e] using h⟩
  | m + 1, lo, j, ρ, e, h, st => by
    obtain ⟨ρ1, ρ2, h1, h2, h3⟩ := st j ρ (Nat.le_refl _) (by omega) h
    obtain ⟨ρ', h4, h5⟩ := forL_rng (m := m) (lo := lo + 1) (j := j + 1) (show j + 1 + m = n by omega) h3 fun k ρ a b c => by
      obtain ⟨x, y, h6, h7, h8⟩ := st k ρ (by omega) b c
      have : lo + ((k - j : Nat) : Int) = lo + 1 + ((k - (j + 1) : Nat) : Int) := by omega
      exact ⟨x, y, this ▸ h6, h7, h8⟩
    refine ⟨ρ', ?_, h5⟩
    have : lo + ((j - j : Nat) : Int) = lo := by omega
    rw [this] at h1
    show (tg (.int lo) ρ).bind _ = _
    rw [h1, Option.bind_some, h2]
    exact h4
/-- along a list, with what is done so far -/
theorem forL_inv {tg : TgF} {body : G} {I : List D → Rho → Prop} {full : List D} : ∀ {ds pre : List D} {ρ : Rho}, full = pre ++ ds → I pre ρ →
    (∀ pre d post ρ, full = pre ++ d :: post → I pre ρ → ∃ ρ1 ρ2, tg d ρ = some ρ1 ∧ body ρ1 = some (.nx ρ2) ∧ I (pre ++ [d]) ρ2) →
    ∃ ρ', forL tg body ds ρ = some (.nx ρ') ∧ I full ρ'
  | [], pre, ρ, e, h, st => ⟨ρ, rfl, by simpa [e] using h⟩
  | d :: ds, pre, ρ, e, h, st => by
    obtain ⟨ρ1, ρ2, h1, h2, h3⟩ := st pre d ds ρ e h
    obtain ⟨ρ', h4, h5⟩ := forL_inv (ds := ds) (pre := pre ++ [d]) (by simpa using e) h3 st
    refine ⟨ρ', ?_, h5⟩
    show (tg d ρ).bind _ = _
    rw [h1, Option.bind_some, h2]
    exact h4
/-- along a list, with one thing kept -/
theorem forL_keep {tg : TgF} {body : G} {I : Rho → Prop} : ∀ {ds : List D} {ρ : Rho}, I ρ →
    (∀ d ρ, d ∈ ds → I ρ → ∃ ρ1 ρ2, tg d ρ = some ρ1 ∧ body ρ1 = some (.nx ρ2) ∧ I ρ2) → ∃ ρ', forL tg body ds ρ = some (.nx ρ') ∧ I ρ'
  | [], ρ, h, st => ⟨ρ, rfl, h⟩
  | d :: ds, ρ, h, st => by
    obtain ⟨ρ1, ρ2, h1, h2, h3⟩ := st d ρ (List.mem_cons_self) h
    obtain ⟨ρ', h4, h5⟩ := forL_keep (ds := ds) h3 fun d ρ m => st d ρ (List.mem_cons_of_mem _ m)
    refine ⟨ρ', ?_, h5⟩
    show (tg d ρ).bind _ = _
    rw [h1, Option.bind_some, h2]
    exact h4
theorem compL_map {tg : TgF} {e : F1} {ρ : Rho} {g : D → D} : ∀ {ds : List D}, (∀ d ∈ ds, ∃ ρ1, tg d ρ = some ρ1 ∧ e ρ1 = some (g d)) → compL tg tYes e ρ ds = some (ds.map g)
  | [], _ => rfl
  | d :: ds, h => by
    obtain ⟨ρ1, h1, h2⟩ := h d List.mem_cons_self
    have h3 := compL_map (ds := ds) fun d m => h d (List.mem_cons_of_mem _ m)
    simp only [compL, h1, tYes, Option.bind_some, if_true, h2, h3, List.map_cons]
theorem compL_ex {tg : TgF} {e : F1} {ρ : Rho} {P : D → D → Prop} : ∀ {ds : List D}, (∀ d ∈ ds, ∃ ρ1 y, tg d ρ = some ρ1 ∧ e ρ1 = some y ∧ P d y) → ∃ ys, compL tg tYes e ρ ds = some ys ∧ ys.length = ds.length ∧ ∀ y ∈ ys, ∃ d ∈ ds, P d y
  | [], _ => ⟨[], rfl, rfl, fun _ h => by cases h⟩
  | d :: ds, h => by
    obtain ⟨ρ1, y, h1, h2, h3⟩ := h d List.mem_cons_self
    obtain ⟨ys, h4, h5, h6⟩ := compL_ex (ds := ds) fun d m => h d (List.mem_cons_of_mem _ m)
    refine ⟨y :: ys, by simp only [compL, h1, tYes, Option.bind_some, if_true, h2, h4], by simp [h5], fun z m => ?_⟩
    rcases List.mem_cons.mp m with rfl | m
    · exact ⟨d, List.mem_cons_self, h3⟩
    · obtain ⟨d', a, b⟩ := h6 z m
      exact ⟨d', List.mem_cons_of_mem _ a, b⟩
/-- with an if -/
theorem compL_if {tg : TgF} {t : FB} {e : F1} {ρ : Rho} {p : D → Bool} {g : D → D} : ∀ {ds : List D}, (∀ d ∈ ds, ∃ ρ1, tg d ρ = some ρ1 ∧ t ρ1 = some (p d) ∧ (p d = true → e ρ1 = some (g d))) → compL tg t e ρ ds = some ((ds.filter p).map g)
  | [], _ => rfl
  | d :: ds, h => by
    obtain ⟨ρ1, h1, h2, h3⟩ := h d List.mem_cons_self
    have h4 := compL_if (ds := ds) fun d m => h d (List.mem_cons_of_mem _ m)
    simp only [compL, h1, Option.bind_some, h2, h4]
    cases hp : p d with
    | true => simp [h3 hp, hp]
    | false => simp [hp]

/-! ### comprehensions, sizes -/
theorem boolsL_map : ∀ bs : List Bool, boolsL (bs.map PyData.bool) = some bs
  | [] => rfl
  | b :: bs => by simp [boolsL, boolsL_map bs]
theorem all_map {α : Type} (f : α → Bool) (xs : List α) : allD (.list (xs.map fun x => .bool (f x))) = some (.bool (xs.all f)) := by
  show (boolsL _).map _ = _
  rw [show (xs.map fun x => PyData.bool (f x)) = (xs.map f).map .bool by simp, boolsL_map]
  simp [List.all_map]
/-- a comprehension over things of a kind -/
theorem compL_of {α : Type} {tg : TgF} {e : F1} {ρ : Rho} {enc : α → D} {g : α → D} {xs : List α} (h : ∀ x ∈ xs, ∃ ρ1, tg (enc x) ρ = some ρ1 ∧ e ρ1 = some (g x)) : compL tg tYes e ρ (xs.map enc) = some (xs.map g) := by
  induction xs with
  | nil => rfl
  | cons x xs ih =>
    obtain ⟨ρ1, h1, h2⟩ := h x List.mem_cons_self
    have h3 := ih fun d m => h d (List.mem_cons_of_mem _ m)
    simp only [List.map_cons, compL, h1, tYes, Option.bind_some, if_true, h2, h3]
theorem compL_ofIf {α : Type} {tg : TgF} {t : FB} {e : F1} {ρ : Rho} {enc : α → D} {p : α → Bool} {g : α → D} {xs : List α} (h : ∀ x ∈ xs, ∃ ρ1, tg (enc x) ρ = some ρ1 ∧ t ρ1 = some (p x) ∧ (p x = true → e ρ1 = some (g x))) : compL tg t e ρ (xs.map enc) = some ((xs.filter p).map g) := by
  induction xs with
  | nil => rfl
  | cons x xs ih =>
    obtain ⟨ρ1, h1, h2, h4⟩ := h x List.mem_cons_self
    have h3 := ih fun d m => h d (List.mem_cons_of_mem _ m)
    simp only [List.map_cons, compL, h1, Option.bind_some, h2, h3]
    cases hp : p x with
    | true => simp [h4 hp, hp]
    | false => simp [hp]
theorem fitsL_small {n : Nat} (h : n ≤ 16777216) : fitsL n = true := by unfold fitsL; exact decide_eq_true (show n ≤ 2 ^ 24 from h)
theorem eq_i {a b : Int} : eqD (.int a) (.int b) = some (.bool (a == b)) := by unfold eqD; rw [eqB_int]; rfl
theorem ne_i {a b : Int} : neD (.int a) (.int b) = some (.bool (!(a == b))) := by unfold neD; rw [eqB_int]; rfl
/-- two fors: a row for each thing -/
theorem compL2_of {α β : Type} {tg tg1 : TgF} {src1 : FA} {vs1 : List Nat} {e : F1} {ρ : Rho} {enc : α → D} {g : α → List β} {enc2 f : β → D} {xs : List α}
    (h : ∀ x ∈ xs, ∃ ρ1, tg (enc x) ρ = some ρ1 ∧ src1 ρ1 = some ((g x).map enc2) ∧ ∀ y ∈ g x, ∃ ρ2, tg1 (enc2 y) (wipeR ρ1 vs1) = some ρ2 ∧ e ρ2 = some (f y)) :
    compL2 tg tYes vs1 src1 tg1 tYes e ρ (xs.map enc) = some ((xs.flatMap g).map f) := by
  induction xs with
  | nil => rfl
  | cons x xs ih =>
    obtain ⟨ρ1, h1, h2, h3⟩ := h x List.mem_cons_self
    have h4 := ih fun d m => h d (List.mem_cons_of_mem _ m)
    simp only [List.map_cons, compL2, h1, tYes, Option.bind_some, if_true, h2, compL_of h3, h4, List.flatMap_cons, List.map_append]
def co2K (tg : TgF) (t : FB) (vs1 : List Nat) (src1 : FA) (tg1 : TgF) (t1 : FB) (e : F1) (ρ : Rho) : Option (List D) → Option (List D)
  | some ds => compL2 tg t vs1 src1 tg1 t1 e ρ ds
  | none => none
theorem e_lc2 {vs vs1 : List Nat} {src src1 : FA} {tg tg1 : TgF} {t t1 : FB} {e : F1} {ρ : Rho} : fLc2 vs src tg t vs1 src1 tg1 t1 e ρ = lcK (co2K tg t vs1 src1 tg1 t1 e (wipeR ρ vs) (src ρ)) := nr (by
  unfold fLc2
  cases src ρ with
  | none => rfl
  | some ds =>
    show (compL2 tg t vs1 src1 tg1 t1 e (wipeR ρ vs) ds).bind _ = lcK (compL2 tg t vs1 src1 tg1 t1 e (wipeR ρ vs) ds)
    cases compL2 tg t vs1 src1 tg1 t1 e (wipeR ρ vs) ds <;> rfl)
theorem co2_some {vs1 : List Nat} {src1 : FA} {tg tg1 : TgF} {t t1 : FB} {e : F1} {ρ : Rho} {ds : List D} : co2K tg t vs1 src1 tg1 t1 e ρ (some ds) = compL2 tg t vs1 src1 tg1 t1 e ρ ds := nr rfl
theorem beqI (a b : Nat) : ((a : Int) == (b : Int)) = (a == b) := by
  cases e : a == b
  · simp only [beq_eq_false_iff_ne, ne_eq] at e ⊢
    omega
  · simp only [beq_iff_eq] at e ⊢
    omega
theorem forL_enum {tg : TgF} {body : G} {I : Nat → Rho → Prop} : ∀ {ds : List D} {k : Nat} {ρ : Rho}, I k ρ →
    (∀ (j : Nat) (x : D) (ρ : Rho), ds[j]? = some x → I (k + j) ρ → ∃ ρ1 ρ2, tg (.tuple [.int ((k + j : Nat) : Int), x]) ρ = some ρ1 ∧ body ρ1 = some (.nx ρ2) ∧ I (k + j + 1) ρ2) →
    ∃ ρ', forL tg body (numFrom k ds) ρ = some (.nx ρ') ∧ I (k + ds.length) ρ'
  | [], k, ρ, h, _ => ⟨ρ, rfl, h⟩
  | d :: ds, k, ρ, h, st => by
    obtain ⟨ρ1, ρ2, h1, h2, h3⟩ := st 0 d ρ rfl h
    obtain ⟨ρ', h4, h5⟩ := forL_enum (ds := ds) (k := k + 1) h3 fun j x ρ e hI => by
      have := st (j + 1) x ρ e (by rw [show k + (j + 1) = k + 1 + j by omega]; exact hI)
      rw [show k + (j + 1) = k + 1 + j by omega] at this
      exact this
    refine ⟨ρ', ?_, by rw [show k + (d :: ds).length = k + 1 + ds.length by simp; omega]; exact h5⟩
    show (tg (.tuple [.int ((k : Nat) : Int), d]) ρ).bind _ = _
    rw [show ((k : Nat) : Int) = ((k + 0 : Nat) : Int) by simp, h1, Option.bind_some, h2]
    exact h4
def enK : Option D → Option (List D)
  | some (.list ds) => some (numFrom 0 ds)
  | some (.tuple ds) => some (numFrom 0 ds)
  | some (.str x) => some (numFrom 0 (x.cps.toList.map fun c => .str ⟨#[c]⟩))
  | _ => none
theorem e_enum {a : F1} {ρ : Rho} : sEnum a ρ = enK (a ρ) := nr (by unfold sEnum enK; rcases a ρ with _ | (_ | (_ | _) | _ | _ | _ | _ | _) <;> rfl)
theorem en_l {ds : List D} : enK (some (.list ds)) = some (numFrom 0 ds) := nr rfl
theorem en_t {ds : List D} : enK (some (.tuple ds)) = some (numFrom 0 ds) := nr rfl
theorem is_int {d : D} (h : noDict d = true) : isInst .int d = some (.bool (isT .int d)) := by cases d <;> first | rfl | cases h
theorem is_bool {d : D} (h : noDict d = true) : isInst .bool d = some (.bool (isT .bool d)) := by cases d <;> first | rfl | cases h
theorem is_str {d : D} (h : noDict d = true) : isInst .str d = some (.bool (isT .str d)) := by cases d <;> first | rfl | cases h
theorem is_tup {d : D} (h : noDict d = true) : isInst .tuple d = some (.bool (isT .tuple d)) := by cases d <;> first | rfl | cases h
theorem is_lst {d : D} (h : noDict d = true) : isInst .list d = some (.bool (isT .list d)) := by cases d <;> first | rfl | cases h
theorem is_seq {d : D} (h : noDict d = true) : isInst .seq d = some (.bool (isT .seq d)) := by cases d <;> first | rfl | cases h
/-! ### draws -/
def nums (ns : List Int) : D := .list (ns.map .int)
theorem p18 : (10 : Int) ^ (18 : Int).toNat = 1000000000000000000 := by decide
theorem cell_ok (ns : List Int) (k : Nat) (hk : k ≤ 1000) : ∃ c : Int, Mi.m_law_cell [nums ns, .int k] = some (.int c) := by
  have hm : mulD (.int 7919) (.int k) = some (.int (7919 * k)) := mul_ok (Or.inl (by omega))
  by_cases h1 : k < ns.length
  · refine ⟨ns[k], ?_⟩
    have h1' : (k : Int) < (ns.length : Int) := by omega
    have h2 : L2.atI (ns.map PyData.int) (k : Int) = some (.int ns[k]) := atI_nat (by simp [h1])
    simp only [e_run, e_seq, seq_nx, seq_rt, seq_none, e_skip, e_set, e_own, nxK_some, vK_some, oK_some, e_ret, rtK_some, e_if, ifK_some, e_fVar, e_bVar, va_val, vb_val, vb_own, vb_bor, at_0, at_S, set_0, set_S, e_K, e_f1, o1_some, e_f2, o2_some, e_and, and_t, and_f, and_b, e_or, or_b, e_tOf, to_b, e_tAnd, tand_b, e_tOr, tor_b, e_tNot, not_b, e_tYes, e_fIf, fif_b, e_nil, e_cons, cons_some, e_tup, tup_some, e_lst, lst_some, e_call, call_some, e_m1, e_m2, e_sSeq, seqs_l, seqs_t, seqs_s, e_for, for_some, e_asg, tg_some, e_gN, e_gT2, e_gT3, e_frz, frz_own, e_retOwn, ch_b, e_lc, co_some, lc_some, wipe_nil, wipe_cons, end_rt, end_nx, pt_none, pt_some, int_some, e_cut, cut_l, cut_t, e_app, e_sRng, pad_0, sl_f, sl_t, sl_nil, add_i, sub_i, lt_i, le_i, gt_i, ge_i, neg_i, not_d, len_l, len_t, ix_l, ix_t, max2_i, min2_i, tup_l, tup_t, lst_l, lst_t, rev_l, rev_t, bool_i, bool_b, int_b, isn_n, e_chain, e_par, e_m3, List.length_cons, List.length_nil, List.replicate, List.cons_append, List.nil_append, Option.map_some, Nat.reduceAdd, Nat.reduceSub, Nat.zero_add, if_true, if_false, ite_true, ite_false, Bool.false_eq_true, reduceCtorEq, decide_true, decide_false, not_true, not_false_iff, Bool.not_true, Bool.not_false, Bool.and_true, Bool.true_and, Bool.and_false, Bool.false_and, Bool.or_true, Bool.true_or, Bool.or_false, Bool.false_or, Mi.m_law_cell, Mi.G_law_cell, nums, ixD, h2, List.length_map, h1']
  · have h1' : ¬ (k : Int) < (ns.length : Int) := by omega
    by_cases h0 : ns.length = 0
    · refine ⟨7919 * k + 101, ?_⟩
      have h0' : ((ns.length : Int) == 0) = true := by simp [h0]
      simp only [e_run, e_seq, seq_nx, seq_rt, seq_none, e_skip, e_set, e_own, nxK_some, vK_some, oK_some, e_ret, rtK_some, e_if, ifK_some, e_fVar, e_bVar, va_val, vb_val, vb_own, vb_bor, at_0, at_S, set_0, set_S, e_K, e_f1, o1_some, e_f2, o2_some, e_and, and_t, and_f, and_b, e_or, or_b, e_tOf, to_b, e_tAnd, tand_b, e_tOr, tor_b, e_tNot, not_b, e_tYes, e_fIf, fif_b, e_nil, e_cons, cons_some, e_tup, tup_some, e_lst, lst_some, e_call, call_some, e_m1, e_m2, e_sSeq, seqs_l, seqs_t, seqs_s, e_for, for_some, e_asg, tg_some, e_gN, e_gT2, e_gT3, e_frz, frz_own, e_retOwn, ch_b, e_lc, co_some, lc_some, wipe_nil, wipe_cons, end_rt, end_nx, pt_none, pt_some, int_some, e_cut, cut_l, cut_t, e_app, e_sRng, pad_0, sl_f, sl_t, sl_nil, add_i, sub_i, lt_i, le_i, gt_i, ge_i, neg_i, not_d, len_l, len_t, ix_l, ix_t, max2_i, min2_i, tup_l, tup_t, lst_l, lst_t, rev_l, rev_t, bool_i, bool_b, int_b, isn_n, e_chain, e_par, e_m3, List.length_cons, List.length_nil, List.replicate, List.cons_append, List.nil_append, Option.map_some, Nat.reduceAdd, Nat.reduceSub, Nat.zero_add, if_true, if_false, ite_true, ite_false, Bool.false_eq_true, reduceCtorEq, decide_true, decide_false, not_true, not_false_iff, Bool.not_true, Bool.not_false, Bool.and_true, Bool.true_and, Bool.and_false, Bool.false_and, Bool.or_true, Bool.true_or, Bool.or_false, Bool.false_or, Mi.m_law_cell, Mi.G_law_cell, nums, eqD, eqB_int, hm, List.length_map, h1', h0']
    · have hl : (0 : Int) < ns.length := by omega
      obtain ⟨x, hx, h2⟩ := atI_mem (xs := ns.map PyData.int) (i := (k : Int) % (ns.length : Int)) (Int.emod_nonneg _ (by omega)) (by simpa using Int.emod_lt_of_pos _ hl)
      obtain ⟨n, _, rfl⟩ := List.mem_map.mp hx
      refine ⟨n % 1000003 + 7919 * k, ?_⟩
      have h3 : modD (.int k) (.int ns.length) = some (.int (k % ns.length)) := mod_ok hl
      have h4 : modD (.int n) (.int 1000003) = some (.int (n % 1000003)) := mod_ok (by decide)
      have h5 : ((ns.length : Int) == 0) = false := by simpa using h0
      simp only [e_run, e_seq, seq_nx, seq_rt, seq_none, e_skip, e_set, e_own, nxK_some, vK_some, oK_some, e_ret, rtK_some, e_if, ifK_some, e_fVar, e_bVar, va_val, vb_val, vb_own, vb_bor, at_0, at_S, set_0, set_S, e_K, e_f1, o1_some, e_f2, o2_some, e_and, and_t, and_f, and_b, e_or, or_b, e_tOf, to_b, e_tAnd, tand_b, e_tOr, tor_b, e_tNot, not_b, e_tYes, e_fIf, fif_b, e_nil, e_cons, cons_some, e_tup, tup_some, e_lst, lst_some, e_call, call_some, e_m1, e_m2, e_sSeq, seqs_l, seqs_t, seqs_s, e_for, for_some, e_asg, tg_some, e_gN, e_gT2, e_gT3, e_frz, frz_own, e_retOwn, ch_b, e_lc, co_some, lc_some, wipe_nil, wipe_cons, end_rt, end_nx, pt_none, pt_some, int_some, e_cut, cut_l, cut_t, e_app, e_sRng, pad_0, sl_f, sl_t, sl_nil, add_i, sub_i, lt_i, le_i, gt_i, ge_i, neg_i, not_d, len_l, len_t, ix_l, ix_t, max2_i, min2_i, tup_l, tup_t, lst_l, lst_t, rev_l, rev_t, bool_i, bool_b, int_b, isn_n, e_chain, e_par, e_m3, List.length_cons, List.length_nil, List.replicate, List.cons_append, List.nil_append, Option.map_some, Nat.reduceAdd, Nat.reduceSub, Nat.zero_add, if_true, if_false, ite_true, ite_false, Bool.false_eq_true, reduceCtorEq, decide_true, decide_false, not_true, not_false_iff, Bool.not_true, Bool.not_false, Bool.and_true, Bool.true_and, Bool.and_false, Bool.false_and, Bool.or_true, Bool.true_or, Bool.or_false, Bool.false_or, Mi.m_law_cell, Mi.G_law_cell, nums, eqD, eqB_int, hm, ixD, h3, h2, h4, List.length_map, h1', h5]
def primes : List D := [.int 2147483647, .int 2147483629, .int 2147483587, .int 2147483579, .int 2147483563, .int 2147483549, .int 2147483543, .int 2147483497]
theorem prime_at (i : Int) : ∃ p : Int, L2.atI primes (i % 8) = some (.int p) ∧ 0 < p ∧ p < 2147483648 := by
  have h0 := Int.emod_nonneg i (b := 8) (by decide)
  have h1 := Int.emod_lt_of_pos i (b := 8) (by decide)
  generalize i % 8 = j at h0 h1
  have : j = 0 ∨ j = 1 ∨ j = 2 ∨ j = 3 ∨ j = 4 ∨ j = 5 ∨ j = 6 ∨ j = 7 := by omega
  rcases this with rfl | rfl | rfl | rfl | rfl | rfl | rfl | rfl <;> exact ⟨_, rfl, by decide, by decide⟩
/-- a row of draws -/
structure Row (many : Nat) (base : Int) (ns : List Int) : Prop where
  len : ns.length = many
  low : ∀ n ∈ ns, 0 ≤ n ∧ n < base
theorem draws_ok (ns : List Int) (k many : Nat) (base : Int) (hk : k ≤ 1000) (hm : many ≤ 1000) (hb : 0 < base) (hb2 : base < 1000000) :
    ∃ row, Row many base row ∧ Mi.m_law_draws [nums ns, .int k, .int many, .int base] = some (nums row) := by
  obtain ⟨c, hc⟩ := cell_ok ns k hk
  have hp : powD (.int 10) (.int 18) = some (.int 1000000000000000000) := by rw [pow_ok (by decide) (by decide) (by decide), p18]
  let I : Nat → Rho → Prop := fun j ρ => ∃ (rest : Int) (row : List Int) (s8 s9 : Slot), Row j base row ∧
    ρ = [.val (nums ns), .val (.int k), .val (.int many), .val (.int base), .val (.tuple primes), .val (.int c), .val (.int rest), .own (nums row), s8, s9]
  have loop : ∀ rest : Int, ∃ ρ', forL (gN 8) Mi.B_law_draws_1 (rngL many 0) [.val (nums ns), .val (.int k), .val (.int many), .val (.int base), .val (.tuple primes), .val (.int c), .val (.int rest), .own (nums []), .no, .no] = some (.nx ρ') ∧ I many ρ' := fun rest =>
    forL_rng (tg := gN 8) (body := Mi.B_law_draws_1) (n := many)
      (I := I) (j := 0) (m := many) (lo := 0) (by omega) ⟨rest, [], .no, .no, ⟨rfl, fun _ h => by cases h⟩, rfl⟩ fun j ρ _ hj ⟨rest, row, s8, s9, hr, e⟩ => by
      subst e
      obtain ⟨p1, a1, b1, c1⟩ := prime_at j
      obtain ⟨p2, a2, b2, c2⟩ := prime_at (3 * j + k)
      obtain ⟨p3, a3, b3, c3⟩ := prime_at (j + 5)
      have m8 : ∀ i : Int, modD (.int i) (.int 8) = some (.int (i % 8)) := fun i => mod_ok (by decide)
      have q1 := Int.emod_nonneg c (b := p1) (by omega)
      have q2 := Int.emod_lt_of_pos c b1
      have t1 : ∀ z : Int, mulD (.int (c % p1)) (.int z) = some (.int (c % p1 * z)) := fun z => mul_ok (Or.inl (by omega))
      have t2 : mulD (.int 2) (.int j) = some (.int (2 * j)) := mul_ok (Or.inl (by omega))
      have t3 : mulD (.int (2 * j)) (.int j) = some (.int (2 * j * j)) := mul_ok (Or.inr (by omega))
      have t4 : mulD (.int 7919) (.int (j + 1)) = some (.int (7919 * (j + 1))) := mul_ok (Or.inl (by omega))
      have t5 : mulD (.int (7919 * (j + 1))) (.int (j + 1)) = some (.int (7919 * (j + 1) * (j + 1))) := mul_ok (Or.inr (by omega))
      have t6 : mulD (.int 104729) (.int k) = some (.int (104729 * k)) := mul_ok (Or.inl (by omega))
      have t7 : mulD (.int 3) (.int j) = some (.int (3 * j)) := mul_ok (Or.inl (by omega))
      generalize e1 : c % p1 * (48271 + 2 * (j : Int) * j) + 7919 * ((j : Int) + 1) * (j + 1) + 104729 * k = m1
      have u1 : modD (.int m1) (.int p2) = some (.int (m1 % p2)) := mod_ok b2
      have q3 := Int.emod_nonneg m1 (b := p2) (by omega)
      have q4 := Int.emod_lt_of_pos m1 b2
      generalize m1 % p2 = m2 at u1 q3 q4
      have t8 : ∀ z : Int, mulD (.int z) (.int m2) = some (.int (z * m2)) := fun z => mul_ok (Or.inr (by omega))
      have u2 : modD (.int (m2 * m2 * m2)) (.int p3) = some (.int (m2 * m2 * m2 % p3)) := mod_ok b3
      have u3 : ∀ z : Int, modD (.int z) (.int base) = some (.int (z % base)) := fun z => mod_ok hb
      have u4 : divD (.int rest) (.int base) = some (.int (rest / base)) := div_ok hb (by omega)
      have u5 : modD (.int c) (.int p1) = some (.int (c % p1)) := mod_ok b1
      have hl : (row.map PyData.int).length < sizeLine := by rw [List.length_map, hr.len]; exact Nat.lt_of_lt_of_le hj (Nat.le_trans hm (by decide))
      have fin : ∀ z : Int, Row (j + 1) base (row ++ [z % base]) := fun z => ⟨by simp [hr.len], fun n hn => by
        rcases List.mem_append.mp hn with h | h
        · exact hr.low n h
        · rw [List.mem_singleton.mp h]
          exact ⟨Int.emod_nonneg _ (by omega), Int.emod_lt_of_pos _ hb⟩⟩
      have o : (0 : Int) + ((j - 0 : Nat) : Int) = j := by omega
      rw [o]
      by_cases hg : 0 < rest
      · refine ⟨_, _, rfl, ?_, rest / base, row ++ [rest % base], .val (.int j), .val (.int rest), fin _, rfl⟩
        simp only [e_run, e_seq, seq_nx, seq_rt, seq_none, e_skip, e_set, e_own, nxK_some, vK_some, oK_some, e_ret, rtK_some, e_if, ifK_some, e_fVar, e_bVar, va_val, vb_val, vb_own, vb_bor, at_0, at_S, set_0, set_S, e_K, e_f1, o1_some, e_f2, o2_some, e_and, and_t, and_f, and_b, e_or, or_b, e_tOf, to_b, e_tAnd, tand_b, e_tOr, tor_b, e_tNot, not_b, e_tYes, e_fIf, fif_b, e_nil, e_cons, cons_some, e_tup, tup_some, e_lst, lst_some, e_call, call_some, e_m1, e_m2, e_sSeq, seqs_l, seqs_t, seqs_s, e_for, for_some, e_asg, tg_some, e_gN, e_gT2, e_gT3, e_frz, frz_own, e_retOwn, ch_b, e_lc, co_some, lc_some, wipe_nil, wipe_cons, end_rt, end_nx, pt_none, pt_some, int_some, e_cut, cut_l, cut_t, e_app, e_sRng, pad_0, sl_f, sl_t, sl_nil, add_i, sub_i, lt_i, le_i, gt_i, ge_i, neg_i, not_d, len_l, len_t, ix_l, ix_t, max2_i, min2_i, tup_l, tup_t, lst_l, lst_t, rev_l, rev_t, bool_i, bool_b, int_b, isn_n, e_chain, e_par, e_m3, List.length_cons, List.length_nil, List.replicate, List.cons_append, List.nil_append, Option.map_some, Nat.reduceAdd, Nat.reduceSub, Nat.zero_add, if_true, if_false, ite_true, ite_false, Bool.false_eq_true, reduceCtorEq, decide_true, decide_false, not_true, not_false_iff, Bool.not_true, Bool.not_false, Bool.and_true, Bool.true_and, Bool.and_false, Bool.false_and, Bool.or_true, Bool.true_or, Bool.or_false, Bool.false_or, Mi.B_law_draws_1, m8, hg, app_some hl, a1, a2, a3, u5, t1, t2, t3, t4, t5, t6, t7, e1, u1, t8, u2, u3, u4, nums, List.map_append, List.map_cons, List.map_nil]
      · refine ⟨_, _, rfl, ?_, rest / base, row ++ [m2 * m2 * m2 % p3 % base], .val (.int j), .val (.int (m2 * m2 * m2 % p3)), fin _, rfl⟩
        simp only [e_run, e_seq, seq_nx, seq_rt, seq_none, e_skip, e_set, e_own, nxK_some, vK_some, oK_some, e_ret, rtK_some, e_if, ifK_some, e_fVar, e_bVar, va_val, vb_val, vb_own, vb_bor, at_0, at_S, set_0, set_S, e_K, e_f1, o1_some, e_f2, o2_some, e_and, and_t, and_f, and_b, e_or, or_b, e_tOf, to_b, e_tAnd, tand_b, e_tOr, tor_b, e_tNot, not_b, e_tYes, e_fIf, fif_b, e_nil, e_cons, cons_some, e_tup, tup_some, e_lst, lst_some, e_call, call_some, e_m1, e_m2, e_sSeq, seqs_l, seqs_t, seqs_s, e_for, for_some, e_asg, tg_some, e_gN, e_gT2, e_gT3, e_frz, frz_own, e_retOwn, ch_b, e_lc, co_some, lc_some, wipe_nil, wipe_cons, end_rt, end_nx, pt_none, pt_some, int_some, e_cut, cut_l, cut_t, e_app, e_sRng, pad_0, sl_f, sl_t, sl_nil, add_i, sub_i, lt_i, le_i, gt_i, ge_i, neg_i, not_d, len_l, len_t, ix_l, ix_t, max2_i, min2_i, tup_l, tup_t, lst_l, lst_t, rev_l, rev_t, bool_i, bool_b, int_b, isn_n, e_chain, e_par, e_m3, List.length_cons, List.length_nil, List.replicate, List.cons_append, List.nil_append, Option.map_some, Nat.reduceAdd, Nat.reduceSub, Nat.zero_add, if_true, if_false, ite_true, ite_false, Bool.false_eq_true, reduceCtorEq, decide_true, decide_false, not_true, not_false_iff, Bool.not_true, Bool.not_false, Bool.and_true, Bool.true_and, Bool.and_false, Bool.false_and, Bool.or_true, Bool.true_or, Bool.or_false, Bool.false_or, Mi.B_law_draws_1, m8, hg, app_some hl, a1, a2, a3, u5, t1, t2, t3, t4, t5, t6, t7, e1, u1, t8, u2, u3, u4, nums, List.map_append, List.map_cons, List.map_nil]
  have sm := rng_some (j := (many : Int)) (by omega) (by omega)
  have tn : ((many : Int)).toNat = many := by omega
  have fin : ∀ ρ', I many ρ' → ∃ row, Row many base row ∧ atR ρ' 7 = .own (nums row) ∧ ∃ a b, ρ'.set 7 (.val (nums row)) = a ∧ atR a 7 = .val (nums row) := fun ρ' ⟨rest, row, s8, s9, h2, e⟩ => ⟨row, h2, by subst e; rfl, _, 0, rfl, by subst e; rfl⟩
  by_cases h18 : 1000000000000000000 ≤ c
  · obtain ⟨ρ', h1, hI⟩ := loop c
    obtain ⟨row, h2, h3, _, _, rfl, h4⟩ := fin ρ' hI
    refine ⟨row, h2, ?_⟩
    simp only [primes, nums, List.map_nil] at h1 hc h3 h4 ⊢
    simp only [e_run, e_seq, seq_nx, seq_rt, seq_none, e_skip, e_set, e_own, nxK_some, vK_some, oK_some, e_ret, rtK_some, e_if, ifK_some, e_fVar, e_bVar, va_val, vb_val, vb_own, vb_bor, at_0, at_S, set_0, set_S, e_K, e_f1, o1_some, e_f2, o2_some, e_and, and_t, and_f, and_b, e_or, or_b, e_tOf, to_b, e_tAnd, tand_b, e_tOr, tor_b, e_tNot, not_b, e_tYes, e_fIf, fif_b, e_nil, e_cons, cons_some, e_tup, tup_some, e_lst, lst_some, e_call, call_some, e_m1, e_m2, e_sSeq, seqs_l, seqs_t, seqs_s, e_for, for_some, e_asg, tg_some, e_gN, e_gT2, e_gT3, e_frz, frz_own, e_retOwn, ch_b, e_lc, co_some, lc_some, wipe_nil, wipe_cons, end_rt, end_nx, pt_none, pt_some, int_some, e_cut, cut_l, cut_t, e_app, e_sRng, pad_0, sl_f, sl_t, sl_nil, add_i, sub_i, lt_i, le_i, gt_i, ge_i, neg_i, not_d, len_l, len_t, ix_l, ix_t, max2_i, min2_i, tup_l, tup_t, lst_l, lst_t, rev_l, rev_t, bool_i, bool_b, int_b, isn_n, e_chain, e_par, e_m3, List.length_cons, List.length_nil, List.replicate, List.cons_append, List.nil_append, Option.map_some, Nat.reduceAdd, Nat.reduceSub, Nat.zero_add, if_true, if_false, ite_true, ite_false, Bool.false_eq_true, reduceCtorEq, decide_true, decide_false, not_true, not_false_iff, Bool.not_true, Bool.not_false, Bool.and_true, Bool.true_and, Bool.and_false, Bool.false_and, Bool.or_true, Bool.true_or, Bool.or_false, Bool.false_or, Mi.m_law_draws, Mi.G_law_draws, hc, hp, h18, sm, tn]
    rw [h1]
    simp only [e_run, e_seq, seq_nx, seq_rt, seq_none, e_skip, e_set, e_own, nxK_some, vK_some, oK_some, e_ret, rtK_some, e_if, ifK_some, e_fVar, e_bVar, va_val, vb_val, vb_own, vb_bor, at_0, at_S, set_0, set_S, e_K, e_f1, o1_some, e_f2, o2_some, e_and, and_t, and_f, and_b, e_or, or_b, e_tOf, to_b, e_tAnd, tand_b, e_tOr, tor_b, e_tNot, not_b, e_tYes, e_fIf, fif_b, e_nil, e_cons, cons_some, e_tup, tup_some, e_lst, lst_some, e_call, call_some, e_m1, e_m2, e_sSeq, seqs_l, seqs_t, seqs_s, e_for, for_some, e_asg, tg_some, e_gN, e_gT2, e_gT3, e_frz, frz_own, e_retOwn, ch_b, e_lc, co_some, lc_some, wipe_nil, wipe_cons, end_rt, end_nx, pt_none, pt_some, int_some, e_cut, cut_l, cut_t, e_app, e_sRng, pad_0, sl_f, sl_t, sl_nil, add_i, sub_i, lt_i, le_i, gt_i, ge_i, neg_i, not_d, len_l, len_t, ix_l, ix_t, max2_i, min2_i, tup_l, tup_t, lst_l, lst_t, rev_l, rev_t, bool_i, bool_b, int_b, isn_n, e_chain, e_par, e_m3, List.length_cons, List.length_nil, List.replicate, List.cons_append, List.nil_append, Option.map_some, Nat.reduceAdd, Nat.reduceSub, Nat.zero_add, if_true, if_false, ite_true, ite_false, Bool.false_eq_true, reduceCtorEq, decide_true, decide_false, not_true, not_false_iff, Bool.not_true, Bool.not_false, Bool.and_true, Bool.true_and, Bool.and_false, Bool.false_and, Bool.or_true, Bool.true_or, Bool.or_false, Bool.false_or, h3, h4]
  · obtain ⟨ρ', h1, hI⟩ := loop 0
    obtain ⟨row, h2, h3, _, _, rfl, h4⟩ := fin ρ' hI
    refine ⟨row, h2, ?_⟩
    simp only [primes, nums, List.map_nil] at h1 hc h3 h4 ⊢
    simp only [e_run, e_seq, seq_nx, seq_rt, seq_none, e_skip, e_set, e_own, nxK_some, vK_some, oK_some, e_ret, rtK_some, e_if, ifK_some, e_fVar, e_bVar, va_val, vb_val, vb_own, vb_bor, at_0, at_S, set_0, set_S, e_K, e_f1, o1_some, e_f2, o2_some, e_and, and_t, and_f, and_b, e_or, or_b, e_tOf, to_b, e_tAnd, tand_b, e_tOr, tor_b, e_tNot, not_b, e_tYes, e_fIf, fif_b, e_nil, e_cons, cons_some, e_tup, tup_some, e_lst, lst_some, e_call, call_some, e_m1, e_m2, e_sSeq, seqs_l, seqs_t, seqs_s, e_for, for_some, e_asg, tg_some, e_gN, e_gT2, e_gT3, e_frz, frz_own, e_retOwn, ch_b, e_lc, co_some, lc_some, wipe_nil, wipe_cons, end_rt, end_nx, pt_none, pt_some, int_some, e_cut, cut_l, cut_t, e_app, e_sRng, pad_0, sl_f, sl_t, sl_nil, add_i, sub_i, lt_i, le_i, gt_i, ge_i, neg_i, not_d, len_l, len_t, ix_l, ix_t, max2_i, min2_i, tup_l, tup_t, lst_l, lst_t, rev_l, rev_t, bool_i, bool_b, int_b, isn_n, e_chain, e_par, e_m3, List.length_cons, List.length_nil, List.replicate, List.cons_append, List.nil_append, Option.map_some, Nat.reduceAdd, Nat.reduceSub, Nat.zero_add, if_true, if_false, ite_true, ite_false, Bool.false_eq_true, reduceCtorEq, decide_true, decide_false, not_true, not_false_iff, Bool.not_true, Bool.not_false, Bool.and_true, Bool.true_and, Bool.and_false, Bool.false_and, Bool.or_true, Bool.true_or, Bool.or_false, Bool.false_or, Mi.m_law_draws, Mi.G_law_draws, hc, hp, h18, sm, tn]
    rw [h1]
    simp only [e_run, e_seq, seq_nx, seq_rt, seq_none, e_skip, e_set, e_own, nxK_some, vK_some, oK_some, e_ret, rtK_some, e_if, ifK_some, e_fVar, e_bVar, va_val, vb_val, vb_own, vb_bor, at_0, at_S, set_0, set_S, e_K, e_f1, o1_some, e_f2, o2_some, e_and, and_t, and_f, and_b, e_or, or_b, e_tOf, to_b, e_tAnd, tand_b, e_tOr, tor_b, e_tNot, not_b, e_tYes, e_fIf, fif_b, e_nil, e_cons, cons_some, e_tup, tup_some, e_lst, lst_some, e_call, call_some, e_m1, e_m2, e_sSeq, seqs_l, seqs_t, seqs_s, e_for, for_some, e_asg, tg_some, e_gN, e_gT2, e_gT3, e_frz, frz_own, e_retOwn, ch_b, e_lc, co_some, lc_some, wipe_nil, wipe_cons, end_rt, end_nx, pt_none, pt_some, int_some, e_cut, cut_l, cut_t, e_app, e_sRng, pad_0, sl_f, sl_t, sl_nil, add_i, sub_i, lt_i, le_i, gt_i, ge_i, neg_i, not_d, len_l, len_t, ix_l, ix_t, max2_i, min2_i, tup_l, tup_t, lst_l, lst_t, rev_l, rev_t, bool_i, bool_b, int_b, isn_n, e_chain, e_par, e_m3, List.length_cons, List.length_nil, List.replicate, List.cons_append, List.nil_append, Option.map_some, Nat.reduceAdd, Nat.reduceSub, Nat.zero_add, if_true, if_false, ite_true, ite_false, Bool.false_eq_true, reduceCtorEq, decide_true, decide_false, not_true, not_false_iff, Bool.not_true, Bool.not_false, Bool.and_true, Bool.true_and, Bool.and_false, Bool.false_and, Bool.or_true, Bool.true_or, Bool.or_false, Bool.false_or, h3, h4]
end Fact
set_option maxRecDepth 100000
/-! Cords as data; tying; cords by digits. -/
namespace Fact
open PySem Pu
inductive Cd where
  | one (x : Str) (n : Int)
  | tie (ps : List Cd)
mutual
def Cd.d : Cd → D
  | .one x n => .tuple [.str x, .int n]
  | .tie ps => .tuple (Cd.ds ps)
def Cd.ds : List Cd → List D
  | [] => []
  | c :: cs => c.d :: Cd.ds cs
end
mutual
/-- strands, in order -/
def Cd.ss : Cd → List (Str × Int)
  | .one x n => [(x, n)]
  | .tie ps => Cd.sss ps
def Cd.sss : List Cd → List (Str × Int)
  | [] => []
  | c :: cs => c.ss ++ Cd.sss cs
end
mutual
/-- each tie has two parts or more -/
def Cd.ok : Cd → Prop
  | .one _ _ => True
  | .tie ps => 2 ≤ ps.length ∧ Cd.oks ps
def Cd.oks : List Cd → Prop
  | [] => True
  | c :: cs => c.ok ∧ Cd.oks cs
end
mutual
def Cd.dp : Cd → Nat
  | .one _ _ => 0
  | .tie ps => Cd.dps ps + 1
def Cd.dps : List Cd → Nat
  | [] => 0
  | c :: cs => max c.dp (Cd.dps cs)
end
theorem Cd.ds_map : ∀ cs : List Cd, Cd.ds cs = cs.map Cd.d
  | [] => rfl
  | c :: cs => by simp [Cd.ds, Cd.ds_map cs]
theorem Cd.ds_len (cs : List Cd) : (Cd.ds cs).length = cs.length := by rw [Cd.ds_map, List.length_map]
theorem Cd.sss_app : ∀ a b : List Cd, Cd.sss (a ++ b) = Cd.sss a ++ Cd.sss b
  | [], b => rfl
  | c :: a, b => by simp [Cd.sss, Cd.sss_app a b]
theorem Cd.oks_iff : ∀ {cs : List Cd}, Cd.oks cs ↔ ∀ c ∈ cs, c.ok
  | [] => by simp [Cd.oks]
  | c :: cs => by simp [Cd.oks, Cd.oks_iff (cs := cs)]
theorem Cd.sss_pos : ∀ {cs : List Cd}, (∀ c ∈ cs, 1 ≤ c.ss.length) → cs.length ≤ (Cd.sss cs).length
  | [], _ => by simp [Cd.sss]
  | c :: cs, h => by
    have h1 := h c List.mem_cons_self
    have h2 := Cd.sss_pos (cs := cs) fun c m => h c (List.mem_cons_of_mem _ m)
    simp only [Cd.sss, List.length_append, List.length_cons]
    omega
theorem Cd.dps_le : ∀ {cs : List Cd} {n : Nat}, (∀ c ∈ cs, c.dp ≤ n) → Cd.dps cs ≤ n
  | [], _, _ => Nat.zero_le _
  | c :: cs, n, h => Nat.max_le.mpr ⟨h c List.mem_cons_self, Cd.dps_le fun c m => h c (List.mem_cons_of_mem _ m)⟩
theorem Cd.le_dps : ∀ {cs : List Cd} {c : Cd}, c ∈ cs → c.dp ≤ Cd.dps cs
  | c :: cs, x, h => by
    rcases List.mem_cons.mp h with rfl | h
    · exact Nat.le_max_left _ _
    · exact Nat.le_trans (Cd.le_dps h) (Nat.le_max_right _ _)
theorem Cd.ss_mem : ∀ {cs : List Cd} {c : Cd}, c ∈ cs → c.ss.length ≤ (Cd.sss cs).length
  | c :: cs, x, h => by
    simp only [Cd.sss, List.length_append]
    rcases List.mem_cons.mp h with rfl | h
    · omega
    · have := Cd.ss_mem h; omega
mutual
/-- an all-tied thing has a strand, and is no deeper than its strands are many -/
theorem Cd.ok_dp : ∀ c : Cd, c.ok → c.dp + 1 ≤ c.ss.length
  | .one x n, _ => by simp [Cd.dp, Cd.ss]
  | .tie ps, h => by
    obtain ⟨h1, h2⟩ := (by simpa only [Cd.ok] using h : 2 ≤ ps.length ∧ Cd.oks ps)
    have h3 := Cd.oks_dp ps h2
    simp only [Cd.dp, Cd.ss]
    match ps, h1, h2, h3 with
    | a :: b :: r, _, _, h3 => 
      simp only [Cd.dps, Cd.sss, List.length_append, List.length_cons] at h3 ⊢
      have := h3.2 (by simp)
      omega
theorem Cd.oks_dp : ∀ cs : List Cd, Cd.oks cs → cs.length ≤ (Cd.sss cs).length ∧ (cs ≠ [] → Cd.dps cs + cs.length ≤ (Cd.sss cs).length)
  | [], _ => ⟨Nat.le_refl _, fun h => absurd rfl h⟩
  | c :: cs, h => by
    obtain ⟨h1, h2⟩ := (by simpa only [Cd.oks] using h : c.ok ∧ Cd.oks cs)
    have a := Cd.ok_dp c h1
    have b := Cd.oks_dp cs h2
    refine ⟨by simp only [Cd.sss, List.length_append, List.length_cons]; omega, fun _ => ?_⟩
    simp only [Cd.dps, Cd.sss, List.length_append, List.length_cons]
    cases cs with
    | nil => simp only [Cd.dps, Cd.sss, List.length_nil]; omega
    | cons x y =>
      have := b.2 (by simp)
      simp only [List.length_cons] at this ⊢
      omega
end
theorem Cd.ss_one (c : Cd) (h : c.ok) : 1 ≤ c.ss.length := by have := Cd.ok_dp c h; omega

/-! ### while -/
theorem while_ok {t : FB} {body : G} {I : Nat → Rho → Prop} (h : ∀ n ρ, I n ρ → t ρ = some false ∨ (t ρ = some true ∧ ∃ m ρ', m < n ∧ body ρ = some (.nx ρ') ∧ I m ρ')) :
    ∀ (n N : Nat) (ρ : Rho), n < N → I n ρ → ∃ m ρ', whileN t body N ρ = some (.nx ρ') ∧ I m ρ' ∧ t ρ' = some false
  | n, 0, ρ, hn, _ => absurd hn (Nat.not_lt_zero _)
  | n, N + 1, ρ, hn, hI => by
    rcases h n ρ hI with e | ⟨e, m, ρ', hm, e2, hI'⟩
    · exact ⟨n, ρ, by simp only [whileN, e, Option.bind_some, Bool.false_eq_true, if_false], hI, e⟩
    · obtain ⟨m2, ρ2, a, b, c⟩ := while_ok h m N ρ' (by omega) hI'
      exact ⟨m2, ρ2, by simp only [whileN, e, Option.bind_some, if_true, e2, a], b, c⟩
theorem cut_to {α : Type} (xs : List α) (n : Nat) : cutL xs none (some (n : Int)) = xs.take n := by
  unfold cutL
  rw [HT.sIx_none, HT.sIx_nat]
  simp only [List.drop_zero, Nat.sub_zero]
  rcases Nat.le_total n xs.length with h | h
  · rw [Nat.min_eq_left h]
  · rw [Nat.min_eq_right h, List.take_length, List.take_of_length_le h]
theorem cut_from {α : Type} (xs : List α) (n : Nat) : cutL xs (some (n : Int)) none = xs.drop n := by
  unfold cutL
  rw [HT.sIx_none, HT.sIx_nat]
  rcases Nat.le_total n xs.length with h | h
  · rw [Nat.min_eq_left h, List.take_of_length_le (by rw [List.length_drop]; omega)]
  · rw [Nat.min_eq_right h, Nat.sub_self, List.take_zero, List.drop_of_length_le h]
theorem cut_mid {α : Type} (xs : List α) (n m : Nat) (h : n ≤ m) (h2 : m ≤ xs.length) : cutL xs (some (n : Int)) (some (m : Int)) = (xs.drop n).take (m - n) := by
  unfold cutL
  rw [HT.sIx_nat, HT.sIx_nat, Nat.min_eq_left h2, Nat.min_eq_left (by omega)]
/-- [1, 2, 7][d % 3] -/
theorem pick3 (a b c : Int) (d : Int) : ∃ x, (x = a ∨ x = b ∨ x = c) ∧ L2.atI [PyData.int a, .int b, .int c] (d % 3) = some (.int x) := by
  have h0 := Int.emod_nonneg d (b := 3) (by decide)
  have h1 := Int.emod_lt_of_pos d (b := 3) (by decide)
  generalize d % 3 = j at h0 h1
  have : j = 0 ∨ j = 1 ∨ j = 2 := by omega
  rcases this with rfl | rfl | rfl
  · exact ⟨a, Or.inl rfl, rfl⟩
  · exact ⟨b, Or.inr (Or.inl rfl), rfl⟩
  · exact ⟨c, Or.inr (Or.inr rfl), rfl⟩
theorem nums_at {ns : List Int} {i : Int} (h0 : 0 ≤ i) (h1 : i < ns.length) : ∃ n, n ∈ ns ∧ ns[i.toNat]? = some n ∧ L2.atI (ns.map PyData.int) i = some (.int n) := by
  obtain ⟨x, h2, h3⟩ := atI_at (xs := ns.map PyData.int) h0 (by simpa using h1)
  rw [List.getElem?_map] at h2
  cases e : ns[i.toNat]? with
  | none => rw [e] at h2; cases h2
  | some n =>
    rw [e] at h2
    cases h2
    exact ⟨n, List.mem_of_getElem? e, rfl, h3⟩

theorem oks_of_sub {a b : List Cd} (h : ∀ c ∈ a, c ∈ b) (hb : Cd.oks b) : Cd.oks a := Cd.oks_iff.mpr fun c m => Cd.oks_iff.mp hb c (h c m)
/-- what tying makes of so many things -/
theorem tied_ok (cs : List Cd) (dr : List Int) (hc : cs ≠ []) (hl : cs.length < 1000) (hd : dr ≠ []) (hp : ∀ n ∈ dr, 0 ≤ n) (ho : Cd.oks cs) {src : D} (hs : lstD src = some (.list (Cd.ds cs))) :
    ∃ c : Cd, Mi.m_law_tied [src, nums dr] = some c.d ∧ c.ss = Cd.sss cs ∧ c.ok := by
  let I : Nat → Rho → Prop := fun n ρ => ∃ (ts : List Cd) (at_ : Int) (a b c : Slot), n = ts.length ∧ ts ≠ [] ∧ ts.length < 1000 ∧ 0 ≤ at_ ∧ Cd.sss ts = Cd.sss cs ∧ Cd.oks ts ∧
    ρ = [.val src, .val (nums dr), .val (.list (Cd.ds ts)), .val (.int at_), a, b, c]
  have hdl : (0 : Int) < dr.length := by have := List.length_pos_iff.mpr hd; omega
  have draw : ∀ i : Int, ∃ n, 0 ≤ n ∧ L2.atI (dr.map PyData.int) (i % dr.length) = some (.int n) := fun i => by
    obtain ⟨n, h1, _, h2⟩ := nums_at (ns := dr) (i := i % dr.length) (Int.emod_nonneg _ (by omega)) (Int.emod_lt_of_pos _ hdl)
    exact ⟨n, hp n h1, h2⟩
  obtain ⟨d0, h00, hd0⟩ : ∃ n, 0 ≤ n ∧ L2.atI (dr.map PyData.int) 0 = some (.int n) := by
    obtain ⟨n, h1, _, h2⟩ := nums_at (ns := dr) (i := 0) (by omega) hdl
    exact ⟨n, hp n h1, h2⟩
  have step : ∀ n ρ, I n ρ → tOf (f2 gtD (fCall (m1 lenD) [bVar 2]) (fK (.int 1))) ρ = some false ∨ (tOf (f2 gtD (fCall (m1 lenD) [bVar 2]) (fK (.int 1))) ρ = some true ∧ ∃ m ρ', m < n ∧ Mi.B_law_tied_1 ρ = some (.nx ρ') ∧ I m ρ') := by
    rintro n _ ⟨ts, at_, a, b, c, rfl, h0, h1, h2, h3, h4, rfl⟩
    have e1 : (Cd.ds ts).length = ts.length := Cd.ds_len ts
    by_cases hg : (1 : Int) < ts.length
    · refine Or.inr ⟨by simp only [e_run, e_seq, seq_nx, seq_rt, seq_none, e_skip, e_set, e_own, nxK_some, vK_some, oK_some, e_ret, rtK_some, e_if, ifK_some, e_fVar, e_bVar, va_val, vb_val, vb_own, vb_bor, at_0, at_S, set_0, set_S, e_K, e_f1, o1_some, e_f2, o2_some, e_and, and_t, and_f, and_b, e_or, or_b, e_tOf, to_b, e_tAnd, tand_b, e_tOr, tor_b, e_tNot, not_b, e_tYes, e_fIf, fif_b, e_nil, e_cons, cons_some, e_tup, tup_some, e_lst, lst_some, e_call, call_some, e_m1, e_m2, e_sSeq, seqs_l, seqs_t, seqs_s, e_for, for_some, e_asg, tg_some, e_gN, e_gT2, e_gT3, e_frz, frz_own, e_retOwn, ch_b, e_lc, co_some, lc_some, wipe_nil, wipe_cons, end_rt, end_nx, pt_none, pt_some, int_some, e_cut, cut_l, cut_t, e_app, e_sRng, pad_0, sl_f, sl_t, sl_nil, add_i, sub_i, lt_i, le_i, gt_i, ge_i, neg_i, not_d, len_l, len_t, ix_l, ix_t, max2_i, min2_i, tup_l, tup_t, lst_l, lst_t, rev_l, rev_t, bool_i, bool_b, int_b, isn_n, e_chain, e_par, e_m3, List.length_cons, List.length_nil, List.replicate, List.cons_append, List.nil_append, Option.map_some, Nat.reduceAdd, Nat.reduceSub, Nat.zero_add, if_true, if_false, ite_true, ite_false, Bool.false_eq_true, reduceCtorEq, decide_true, decide_false, not_true, not_false_iff, Bool.not_true, Bool.not_false, Bool.and_true, Bool.true_and, Bool.and_false, Bool.false_and, Bool.or_true, Bool.true_or, Bool.or_false, Bool.false_or, e1, hg], ?_⟩
      obtain ⟨x1, p1, q1⟩ := draw at_
      obtain ⟨x2, p2, q2⟩ := draw (at_ + 1)
      obtain ⟨m3, w3, q3⟩ := pick3 1 2 7 d0
      have m3p : 0 < m3 := by omega
      have r1 : modD (.int at_) (.int dr.length) = some (.int (at_ % dr.length)) := mod_ok hdl
      have r2 : modD (.int (at_ + 1)) (.int dr.length) = some (.int ((at_ + 1) % dr.length)) := mod_ok hdl
      have r3 : modD (.int d0) (.int 3) = some (.int (d0 % 3)) := mod_ok (by decide)
      have r4 : modD (.int x1) (.int m3) = some (.int (x1 % m3)) := mod_ok m3p
      have u1 := Int.emod_nonneg x1 (b := m3) (by omega)
      obtain ⟨M, hM⟩ : ∃ M : Nat, (M : Int) = min (ts.length : Int) (2 + x1 % m3) := ⟨(min (ts.length : Int) (2 + x1 % m3)).toNat, by omega⟩
      have hM2 : 2 ≤ M ∧ M ≤ ts.length := by omega
      have r5 : modD (.int x2) (.int ((ts.length : Int) - M + 1)) = some (.int (x2 % ((ts.length : Int) - M + 1))) := mod_ok (by omega)
      have u2 := Int.emod_nonneg x2 (b := (ts.length : Int) - M + 1) (by omega)
      have u3 := Int.emod_lt_of_pos x2 (b := (ts.length : Int) - M + 1) (by omega)
      obtain ⟨f, hf⟩ : ∃ f : Nat, (f : Int) = x2 % ((ts.length : Int) - M + 1) := ⟨(x2 % ((ts.length : Int) - M + 1)).toNat, by omega⟩
      have hfl : f + M ≤ ts.length := by omega
      rw [← hf] at r5
      have cast : (f : Int) + (M : Int) = ((f + M : Nat) : Int) := by omega
      have k1 : cutL (Cd.ds ts) none (some (f : Int)) = Cd.ds (ts.take f) := by rw [cut_to, Cd.ds_map, Cd.ds_map, List.map_take]
      have k2 : cutL (Cd.ds ts) (some (f : Int)) (some ((f + M : Nat) : Int)) = Cd.ds ((ts.drop f).take M) := by
        rw [cut_mid _ _ _ (by omega) (by rw [e1]; exact hfl), Cd.ds_map, Cd.ds_map, List.map_take, List.map_drop, Nat.add_sub_cancel_left]
      have k3 : cutL (Cd.ds ts) (some ((f + M : Nat) : Int)) none = Cd.ds (ts.drop (f + M)) := by rw [cut_from, Cd.ds_map, Cd.ds_map, List.map_drop]
      let T : List Cd := ts.take f ++ [Cd.tie ((ts.drop f).take M)] ++ ts.drop (f + M)
      have lT : T.length = ts.length - M + 1 := by simp [T]; omega
      have v1 : addD (.list (Cd.ds (ts.take f))) (.list [.tuple (Cd.ds ((ts.drop f).take M))]) = some (.list (Cd.ds (ts.take f) ++ [.tuple (Cd.ds ((ts.drop f).take M))])) := add_l (by
        rw [Cd.ds_len, List.length_take, List.length_singleton]
        exact Nat.le_trans (show _ ≤ 1001 by omega) (by decide))
      have v2 : addD (.list (Cd.ds (ts.take f) ++ [.tuple (Cd.ds ((ts.drop f).take M))])) (.list (Cd.ds (ts.drop (f + M)))) = some (.list (Cd.ds T)) := by
        rw [add_l (by
          rw [List.length_append, Cd.ds_len, Cd.ds_len, List.length_take, List.length_singleton, List.length_drop]
          exact Nat.le_trans (show _ ≤ 2001 by omega) (by decide))]
        simp [T, Cd.ds_map, Cd.d]
      refine ⟨T.length, [.val src, .val (nums dr), .val (.list (Cd.ds T)), .val (.int (at_ + 2)), .val (.int M), .val (.int f), .val (.int ((f + M : Nat) : Int))], by omega, ?_, T, at_ + 2, _, _, _, rfl, ?_, ?_, by omega, ?_, ?_, rfl⟩
      · simp only [e_run, e_seq, seq_nx, seq_rt, seq_none, e_skip, e_set, e_own, nxK_some, vK_some, oK_some, e_ret, rtK_some, e_if, ifK_some, e_fVar, e_bVar, va_val, vb_val, vb_own, vb_bor, at_0, at_S, set_0, set_S, e_K, e_f1, o1_some, e_f2, o2_some, e_and, and_t, and_f, and_b, e_or, or_b, e_tOf, to_b, e_tAnd, tand_b, e_tOr, tor_b, e_tNot, not_b, e_tYes, e_fIf, fif_b, e_nil, e_cons, cons_some, e_tup, tup_some, e_lst, lst_some, e_call, call_some, e_m1, e_m2, e_sSeq, seqs_l, seqs_t, seqs_s, e_for, for_some, e_asg, tg_some, e_gN, e_gT2, e_gT3, e_frz, frz_own, e_retOwn, ch_b, e_lc, co_some, lc_some, wipe_nil, wipe_cons, end_rt, end_nx, pt_none, pt_some, int_some, e_cut, cut_l, cut_t, e_app, e_sRng, pad_0, sl_f, sl_t, sl_nil, add_i, sub_i, lt_i, le_i, gt_i, ge_i, neg_i, not_d, len_l, len_t, ix_l, ix_t, max2_i, min2_i, tup_l, tup_t, lst_l, lst_t, rev_l, rev_t, bool_i, bool_b, int_b, isn_n, e_chain, e_par, e_m3, List.length_cons, List.length_nil, List.replicate, List.cons_append, List.nil_append, Option.map_some, Nat.reduceAdd, Nat.reduceSub, Nat.zero_add, if_true, if_false, ite_true, ite_false, Bool.false_eq_true, reduceCtorEq, decide_true, decide_false, not_true, not_false_iff, Bool.not_true, Bool.not_false, Bool.and_true, Bool.true_and, Bool.and_false, Bool.false_and, Bool.or_true, Bool.true_or, Bool.or_false, Bool.false_or, Mi.B_law_tied_1, nums, e1, List.length_map, r1, q1, hd0, r3, q3, r4, ← hM, r2, q2, r5, cast, k1, k2, k3, v1, v2]
      · intro h; have := congrArg List.length h; rw [lT] at this; simp at this
      · omega
      · show Cd.sss (ts.take f ++ [Cd.tie ((ts.drop f).take M)] ++ ts.drop (f + M)) = _
        rw [Cd.sss_app, Cd.sss_app, ← h3]
        simp only [Cd.sss, Cd.ss, List.append_nil]
        rw [← Cd.sss_app, ← Cd.sss_app, ← List.drop_drop, List.append_assoc, List.take_append_drop, List.take_append_drop]
      · refine Cd.oks_iff.mpr fun c hc => ?_
        have all := Cd.oks_iff.mp h4
        rcases List.mem_append.mp hc with hc | hc
        · rcases List.mem_append.mp hc with hc | hc
          · exact all c (List.mem_of_mem_take hc)
          · rw [List.mem_singleton.mp hc]
            simp only [Cd.ok]
            refine ⟨by simp; omega, Cd.oks_iff.mpr fun c hc => all c (List.mem_of_mem_drop (List.mem_of_mem_take hc))⟩
        · exact all c (List.mem_of_mem_drop hc)
    · refine Or.inl ?_
      simp only [e_run, e_seq, seq_nx, seq_rt, seq_none, e_skip, e_set, e_own, nxK_some, vK_some, oK_some, e_ret, rtK_some, e_if, ifK_some, e_fVar, e_bVar, va_val, vb_val, vb_own, vb_bor, at_0, at_S, set_0, set_S, e_K, e_f1, o1_some, e_f2, o2_some, e_and, and_t, and_f, and_b, e_or, or_b, e_tOf, to_b, e_tAnd, tand_b, e_tOr, tor_b, e_tNot, not_b, e_tYes, e_fIf, fif_b, e_nil, e_cons, cons_some, e_tup, tup_some, e_lst, lst_some, e_call, call_some, e_m1, e_m2, e_sSeq, seqs_l, seqs_t, seqs_s, e_for, for_some, e_asg, tg_some, e_gN, e_gT2, e_gT3, e_frz, frz_own, e_retOwn, ch_b, e_lc, co_some, lc_some, wipe_nil, wipe_cons, end_rt, end_nx, pt_none, pt_some, int_some, e_cut, cut_l, cut_t, e_app, e_sRng, pad_0, sl_f, sl_t, sl_nil, add_i, sub_i, lt_i, le_i, gt_i, ge_i, neg_i, not_d, len_l, len_t, ix_l, ix_t, max2_i, min2_i, tup_l, tup_t, lst_l, lst_t, rev_l, rev_t, bool_i, bool_b, int_b, isn_n, e_chain, e_par, e_m3, List.length_cons, List.length_nil, List.replicate, List.cons_append, List.nil_append, Option.map_some, Nat.reduceAdd, Nat.reduceSub, Nat.zero_add, if_true, if_false, ite_true, ite_false, Bool.false_eq_true, reduceCtorEq, decide_true, decide_false, not_true, not_false_iff, Bool.not_true, Bool.not_false, Bool.and_true, Bool.true_and, Bool.and_false, Bool.false_and, Bool.or_true, Bool.true_or, Bool.or_false, Bool.false_or, e1, hg]
  obtain ⟨m, ρ', h1, ⟨ts, at_, a, b, c, rfl, k0, k1, k2, k3, k4, rfl⟩, h2⟩ := while_ok step cs.length 1000000000000000000000000 [.val src, .val (nums dr), .val (.list (Cd.ds cs)), .val (.int 0), .no, .no, .no] (by omega) ⟨cs, 0, _, _, _, rfl, hc, hl, by omega, rfl, ho, rfl⟩
  have e1 : (Cd.ds ts).length = ts.length := Cd.ds_len ts
  have hlen : ¬ (1 : Int) < ts.length := by
    intro hg
    have h3 : tOf (f2 gtD (fCall (m1 lenD) [bVar 2]) (fK (.int 1))) [.val src, .val (nums dr), .val (.list (Cd.ds ts)), .val (.int at_), a, b, c] = some true := by simp only [e_run, e_seq, seq_nx, seq_rt, seq_none, e_skip, e_set, e_own, nxK_some, vK_some, oK_some, e_ret, rtK_some, e_if, ifK_some, e_fVar, e_bVar, va_val, vb_val, vb_own, vb_bor, at_0, at_S, set_0, set_S, e_K, e_f1, o1_some, e_f2, o2_some, e_and, and_t, and_f, and_b, e_or, or_b, e_tOf, to_b, e_tAnd, tand_b, e_tOr, tor_b, e_tNot, not_b, e_tYes, e_fIf, fif_b, e_nil, e_cons, cons_some, e_tup, tup_some, e_lst, lst_some, e_call, call_some, e_m1, e_m2, e_sSeq, seqs_l, seqs_t, seqs_s, e_for, for_some, e_asg, tg_some, e_gN, e_gT2, e_gT3, e_frz, frz_own, e_retOwn, ch_b, e_lc, co_some, lc_some, wipe_nil, wipe_cons, end_rt, end_nx, pt_none, pt_some, int_some, e_cut, cut_l, cut_t, e_app, e_sRng, pad_0, sl_f, sl_t, sl_nil, add_i, sub_i, lt_i, le_i, gt_i, ge_i, neg_i, not_d, len_l, len_t, ix_l, ix_t, max2_i, min2_i, tup_l, tup_t, lst_l, lst_t, rev_l, rev_t, bool_i, bool_b, int_b, isn_n, e_chain, e_par, e_m3, List.length_cons, List.length_nil, List.replicate, List.cons_append, List.nil_append, Option.map_some, Nat.reduceAdd, Nat.reduceSub, Nat.zero_add, if_true, if_false, ite_true, ite_false, Bool.false_eq_true, reduceCtorEq, decide_true, decide_false, not_true, not_false_iff, Bool.not_true, Bool.not_false, Bool.and_true, Bool.true_and, Bool.and_false, Bool.false_and, Bool.or_true, Bool.true_or, Bool.or_false, Bool.false_or, e1, hg]
    rw [h3] at h2
    cases h2
  match ts, k0, hlen, k3, k4, h1 with
  | [t], _, _, k3, k4, h1 =>
    refine ⟨t, ?_, by rw [← k3]; simp [Cd.sss], (by simpa only [Cd.oks, and_true] using k4)⟩
    have e2 : L2.atI (Cd.ds [t]) 0 = some t.d := rfl
    simp only [e_run, e_seq, seq_nx, seq_rt, seq_none, e_skip, e_set, e_own, nxK_some, vK_some, oK_some, e_ret, rtK_some, e_if, ifK_some, e_fVar, e_bVar, va_val, vb_val, vb_own, vb_bor, at_0, at_S, set_0, set_S, e_K, e_f1, o1_some, e_f2, o2_some, e_and, and_t, and_f, and_b, e_or, or_b, e_tOf, to_b, e_tAnd, tand_b, e_tOr, tor_b, e_tNot, not_b, e_tYes, e_fIf, fif_b, e_nil, e_cons, cons_some, e_tup, tup_some, e_lst, lst_some, e_call, call_some, e_m1, e_m2, e_sSeq, seqs_l, seqs_t, seqs_s, e_for, for_some, e_asg, tg_some, e_gN, e_gT2, e_gT3, e_frz, frz_own, e_retOwn, ch_b, e_lc, co_some, lc_some, wipe_nil, wipe_cons, end_rt, end_nx, pt_none, pt_some, int_some, e_cut, cut_l, cut_t, e_app, e_sRng, pad_0, sl_f, sl_t, sl_nil, add_i, sub_i, lt_i, le_i, gt_i, ge_i, neg_i, not_d, len_l, len_t, ix_l, ix_t, max2_i, min2_i, tup_l, tup_t, lst_l, lst_t, rev_l, rev_t, bool_i, bool_b, int_b, isn_n, e_chain, e_par, e_m3, List.length_cons, List.length_nil, List.replicate, List.cons_append, List.nil_append, Option.map_some, Nat.reduceAdd, Nat.reduceSub, Nat.zero_add, if_true, if_false, ite_true, ite_false, Bool.false_eq_true, reduceCtorEq, decide_true, decide_false, not_true, not_false_iff, Bool.not_true, Bool.not_false, Bool.and_true, Bool.true_and, Bool.and_false, Bool.false_and, Bool.or_true, Bool.true_or, Bool.or_false, Bool.false_or, Mi.m_law_tied, Mi.G_law_tied, e_par, hs, gWhile]
    rw [h1]
    simp only [e_run, e_seq, seq_nx, seq_rt, seq_none, e_skip, e_set, e_own, nxK_some, vK_some, oK_some, e_ret, rtK_some, e_if, ifK_some, e_fVar, e_bVar, va_val, vb_val, vb_own, vb_bor, at_0, at_S, set_0, set_S, e_K, e_f1, o1_some, e_f2, o2_some, e_and, and_t, and_f, and_b, e_or, or_b, e_tOf, to_b, e_tAnd, tand_b, e_tOr, tor_b, e_tNot, not_b, e_tYes, e_fIf, fif_b, e_nil, e_cons, cons_some, e_tup, tup_some, e_lst, lst_some, e_call, call_some, e_m1, e_m2, e_sSeq, seqs_l, seqs_t, seqs_s, e_for, for_some, e_asg, tg_some, e_gN, e_gT2, e_gT3, e_frz, frz_own, e_retOwn, ch_b, e_lc, co_some, lc_some, wipe_nil, wipe_cons, end_rt, end_nx, pt_none, pt_some, int_some, e_cut, cut_l, cut_t, e_app, e_sRng, pad_0, sl_f, sl_t, sl_nil, add_i, sub_i, lt_i, le_i, gt_i, ge_i, neg_i, not_d, len_l, len_t, ix_l, ix_t, max2_i, min2_i, tup_l, tup_t, lst_l, lst_t, rev_l, rev_t, bool_i, bool_b, int_b, isn_n, e_chain, e_par, e_m3, List.length_cons, List.length_nil, List.replicate, List.cons_append, List.nil_append, Option.map_some, Nat.reduceAdd, Nat.reduceSub, Nat.zero_add, if_true, if_false, ite_true, ite_false, Bool.false_eq_true, reduceCtorEq, decide_true, decide_false, not_true, not_false_iff, Bool.not_true, Bool.not_false, Bool.and_true, Bool.true_and, Bool.and_false, Bool.false_and, Bool.or_true, Bool.true_or, Bool.or_false, Bool.false_or, e2]
  | x :: y :: r, _, hlen, _, _, _ => simp only [List.length_cons] at hlen; omega
end Fact
set_option maxRecDepth 100000
/-! Cords by digits. -/
namespace Fact
open PySem Pu
theorem pick4 (a b c e : Int) (d : Int) : ∃ x, (x = a ∨ x = b ∨ x = c ∨ x = e) ∧ L2.atI [PyData.int a, .int b, .int c, .int e] (d % 4) = some (.int x) := by
  have h0 := Int.emod_nonneg d (b := 4) (by decide)
  have h1 := Int.emod_lt_of_pos d (b := 4) (by decide)
  generalize d % 4 = j at h0 h1
  have : j = 0 ∨ j = 1 ∨ j = 2 ∨ j = 3 := by omega
  rcases this with rfl | rfl | rfl | rfl
  · exact ⟨a, Or.inl rfl, rfl⟩
  · exact ⟨b, Or.inr (Or.inl rfl), rfl⟩
  · exact ⟨c, Or.inr (Or.inr (Or.inl rfl)), rfl⟩
  · exact ⟨e, Or.inr (Or.inr (Or.inr rfl)), rfl⟩
theorem twos_at (i : Int) : ∃ p : Int, L2.atI [PyData.int 1, .int 2, .int 4, .int 8, .int 16, .int 32, .int 64, .int 99] (i % 8) = some (.int p) ∧ 1 ≤ p ∧ p ≤ 99 := by
  have h0 := Int.emod_nonneg i (b := 8) (by decide)
  have h1 := Int.emod_lt_of_pos i (b := 8) (by decide)
  generalize i % 8 = j at h0 h1
  have : j = 0 ∨ j = 1 ∨ j = 2 ∨ j = 3 ∨ j = 4 ∨ j = 5 ∨ j = 6 ∨ j = 7 := by omega
  rcases this with rfl | rfl | rfl | rfl | rfl | rfl | rfl | rfl <;> exact ⟨_, rfl, by decide, by decide⟩
theorem appPop_ok {i j : Nat} {k v : F1} {ρ : Rho} {ds es : List D} {n : Int} {x y : D} (hi : atR ρ i = .own (.list ds)) (hj : atR ρ j = .own (.list es)) (hk : k ρ = some (.int n)) (h0 : 0 ≤ n) (h1 : n < es.length) (h2 : ds.length < sizeLine) (h3 : es.length < sizeLine) (hij : i ≠ j)
    (hx : es[n.toNat]? = some x) (hv : v (ρ.set j (.own (.list (es.eraseIdx n.toNat)))) = some y) :
    gAppPop i j k v ρ = some (.nx ((ρ.set j (.own (.list (es.eraseIdx n.toNat)))).set i (.own (.list (ds ++ [.tuple [x, y]]))))) := by
  unfold gAppPop
  rw [hk, Option.bind_some, hi, hj]
  show (if _ = true then _ else _) = _
  rw [if_pos (by simp only [Bool.and_eq_true, decide_eq_true_eq]; exact ⟨⟨⟨⟨h0, h1⟩, h2⟩, h3⟩, hij⟩), hv, Option.bind_some, hx, Option.map_some]
theorem erase_map {α β : Type} (f : α → β) : ∀ (l : List α) (i : Nat), (l.map f).eraseIdx i = (l.eraseIdx i).map f
  | [], _ => rfl
  | a :: l, 0 => rfl
  | a :: l, i + 1 => by simp [List.eraseIdx, erase_map f l i]
theorem erase_perm {α : Type} : ∀ (l : List α) (i : Nat) (h : i < l.length), (l[i] :: l.eraseIdx i).Perm l
  | a :: l, 0, _ => List.Perm.refl _
  | a :: l, i + 1, h => by
    simp only [List.getElem_cons_succ, List.eraseIdx_cons_succ]
    exact (List.Perm.swap _ _ _).trans ((erase_perm l i (by simpa using h)).cons a)
def base8 : List Str := ["ax", "bo", "cy", "dot", "elk", "fig", "gnu", "hop"]
def strD (s : Str × Int) : D := .tuple [.str s.1, .int s.2]
/-- strands with unlike names out of eight, strengths to 99 -/
structure Good (most : Nat) (ss : List (Str × Int)) : Prop where
  pos : ss ≠ []
  len : ss.length ≤ most
  nd : (ss.map (·.1)).Nodup
  mem : ∀ s ∈ ss, s.1 ∈ base8
  str : ∀ s ∈ ss, 1 ≤ s.2 ∧ s.2 ≤ 99
theorem ds_ones : ∀ ss : List (Str × Int), Cd.ds (ss.map fun s => Cd.one s.1 s.2) = ss.map strD
  | [] => rfl
  | s :: r => by simp [Cd.ds, ds_ones r, Cd.d, strD]
theorem sss_ones : ∀ ss : List (Str × Int), Cd.sss (ss.map fun s => Cd.one s.1 s.2) = ss
  | [] => rfl
  | s :: r => by simp [Cd.sss, sss_ones r, Cd.ss]
theorem oks_ones : ∀ ss : List (Str × Int), Cd.oks (ss.map fun s => Cd.one s.1 s.2)
  | [] => trivial
  | s :: r => ⟨trivial, oks_ones r⟩
theorem cord_ok (dr : List Int) (most : Nat) (hl : 26 ≤ dr.length) (hp : ∀ n ∈ dr, 0 ≤ n) (h1 : 1 ≤ most) (h8 : most ≤ 8) :
    ∃ c : Cd, Mi.m_law_cord [nums dr, .int most] = some c.d ∧ c.ok ∧ Good most c.ss := by
  have draw : ∀ i : Nat, i < 26 → ∃ n, 0 ≤ n ∧ L2.atI (dr.map PyData.int) (i : Int) = some (.int n) := fun i hi => by
    obtain ⟨n, h1, _, h2⟩ := nums_at (ns := dr) (i := i) (by omega) (by omega)
    exact ⟨n, hp n h1, h2⟩
  obtain ⟨d0, p0, q0⟩ := draw 0 (by omega)
  obtain ⟨d1, p1, q1⟩ := draw 1 (by omega)
  replace q1 : L2.atI (dr.map PyData.int) 1 = some (.int d1) := q1
  have r0 : divD (.int d0) (.int 4) = some (.int (d0 / 4)) := div_ok (by decide) (by decide)
  have r1 : modD (.int (d0 / 4)) (.int most) = some (.int (d0 / 4 % most)) := mod_ok (by omega)
  have r2 : modD (.int d0) (.int 4) = some (.int (d0 % 4)) := mod_ok (by decide)
  have r3 : modD (.int d1) (.int 4) = some (.int (d1 % 4)) := mod_ok (by decide)
  obtain ⟨my, w, q2⟩ := pick4 most (1 + d0 / 4 % most) (min 3 most) (min 5 most) d0
  have e1 := Int.emod_nonneg (d0 / 4) (b := (most : Int)) (by omega)
  have e2 := Int.emod_lt_of_pos (d0 / 4) (b := (most : Int)) (by omega)
  obtain ⟨many, rfl⟩ : ∃ m : Nat, (m : Int) = my := ⟨my.toNat, by omega⟩
  have hm : 1 ≤ many ∧ many ≤ most := by omega
  let I : Nat → Rho → Prop := fun j ρ => ∃ (ns : List Str) (ss : List (Str × Int)) (a b c : Slot), ss.length = j ∧ (ss.map (·.1) ++ ns).Perm base8 ∧ (∀ s ∈ ss, 1 ≤ s.2 ∧ s.2 ≤ 99) ∧
    ρ = [.val (nums dr), .val (.int most), .val (.int many), .own (.list (ns.map .str)), .own (.list (ss.map strD)), a, b, c]
  have loop : ∃ ρ', forL (gN 5) Mi.B_law_cord_1 (rngL many 0) [.val (nums dr), .val (.int most), .val (.int many), .own (.list (base8.map .str)), .own (.list []), .no, .no, .no] = some (.nx ρ') ∧ I many ρ' :=
    forL_rng (I := I) (n := many) (j := 0) (m := many) (lo := 0) (by omega) ⟨base8, [], _, _, _, rfl, List.Perm.refl _, fun _ h => (by cases h), rfl⟩ fun j ρ _ hj ⟨ns, ss, a, b, c, hj2, hpm, hst, e⟩ => by
      subst e
      have hlen := hpm.length_eq
      rw [List.length_append, List.length_map, hj2, show base8.length = 8 from rfl] at hlen
      obtain ⟨x, px, qx⟩ := draw (2 + j) (by omega)
      have cast : (2 : Int) + (j : Int) = ((2 + j : Nat) : Int) := by omega
      obtain ⟨p8, b8, c8⟩ := twos_at x
      have s1 : modD (.int x) (.int 99) = some (.int (x % 99)) := mod_ok (by decide)
      have s2 : modD (.int x) (.int 4) = some (.int (x % 4)) := mod_ok (by decide)
      have s3 : modD (.int x) (.int 8) = some (.int (x % 8)) := mod_ok (by decide)
      have s4 : modD (.int x) (.int 12) = some (.int (x % 12)) := mod_ok (by decide)
      obtain ⟨st, w4, q4⟩ := pick4 (1 + x % 99) (1 + x % 4) p8 (1 + x % 12) d1
      have hst2 : 1 ≤ st ∧ st ≤ 99 := by omega
      have s5 : divD (.int x) (.int 100) = some (.int (x / 100)) := div_ok (by decide) (by decide)
      have hnl : (0 : Int) < ns.length := by omega
      have s6 : modD (.int (x / 100)) (.int ns.length) = some (.int (x / 100 % ns.length)) := mod_ok hnl
      have u1 := Int.emod_nonneg (x / 100) (b := (ns.length : Int)) (by omega)
      have u2 := Int.emod_lt_of_pos (x / 100) hnl
      generalize x / 100 % (ns.length : Int) = y at s6 u1 u2
      obtain ⟨i, rfl⟩ := Int.eq_ofNat_of_zero_le u1
      have hi : i < ns.length := by omega
      have o : (0 : Int) + ((j - 0 : Nat) : Int) = j := by omega
      rw [o]
      have era : (ns.map PyData.str).eraseIdx i = (ns.eraseIdx i).map PyData.str := erase_map _ _ _
      let ρ1 : Rho := [.val (nums dr), .val (.int most), .val (.int many), .own (.list (ns.map .str)), .own (.list (ss.map strD)), .val (.int j), .val (.int x), .val (.int st)]
      have pop := appPop_ok (i := 4) (j := 3) (ρ := ρ1) (k := f2 modD (f2 divD (bVar 6) (fK (.int 100))) (fCall (m1 lenD) [bVar 3])) (v := fVar 7) (ds := ss.map strD) (es := ns.map .str) (n := (i : Int)) (x := .str ns[i]) (y := .int st) rfl rfl
        (by simp only [e_run, e_seq, seq_nx, seq_rt, seq_none, e_skip, e_set, e_own, nxK_some, vK_some, oK_some, e_ret, rtK_some, e_if, ifK_some, e_fVar, e_bVar, va_val, vb_val, vb_own, vb_bor, at_0, at_S, set_0, set_S, e_K, e_f1, o1_some, e_f2, o2_some, e_and, and_t, and_f, and_b, e_or, or_b, e_tOf, to_b, e_tAnd, tand_b, e_tOr, tor_b, e_tNot, not_b, e_tYes, e_fIf, fif_b, e_nil, e_cons, cons_some, e_tup, tup_some, e_lst, lst_some, e_call, call_some, e_m1, e_m2, e_sSeq, seqs_l, seqs_t, seqs_s, e_for, for_some, e_asg, tg_some, e_gN, e_gT2, e_gT3, e_frz, frz_own, e_retOwn, ch_b, e_lc, co_some, lc_some, wipe_nil, wipe_cons, end_rt, end_nx, pt_none, pt_some, int_some, e_cut, cut_l, cut_t, e_app, e_sRng, pad_0, sl_f, sl_t, sl_nil, add_i, sub_i, lt_i, le_i, gt_i, ge_i, neg_i, not_d, len_l, len_t, ix_l, ix_t, max2_i, min2_i, tup_l, tup_t, lst_l, lst_t, rev_l, rev_t, bool_i, bool_b, int_b, isn_n, e_chain, e_par, e_m3, List.length_cons, List.length_nil, List.replicate, List.cons_append, List.nil_append, Option.map_some, Nat.reduceAdd, Nat.reduceSub, Nat.zero_add, if_true, if_false, ite_true, ite_false, Bool.false_eq_true, reduceCtorEq, decide_true, decide_false, not_true, not_false_iff, Bool.not_true, Bool.not_false, Bool.and_true, Bool.true_and, Bool.and_false, Bool.false_and, Bool.or_true, Bool.true_or, Bool.or_false, Bool.false_or, ρ1, s5, List.length_map, s6]) (by omega) (by rw [List.length_map]; omega) (by rw [List.length_map]; exact Nat.lt_of_le_of_lt (show ss.length ≤ 8 by omega) (by decide)) (by rw [List.length_map]; exact Nat.lt_of_le_of_lt (show ns.length ≤ 8 by omega) (by decide)) (by decide)
        (by rw [Int.toNat_natCast, List.getElem?_map, List.getElem?_eq_getElem hi]; rfl) (by simp only [e_run, e_seq, seq_nx, seq_rt, seq_none, e_skip, e_set, e_own, nxK_some, vK_some, oK_some, e_ret, rtK_some, e_if, ifK_some, e_fVar, e_bVar, va_val, vb_val, vb_own, vb_bor, at_0, at_S, set_0, set_S, e_K, e_f1, o1_some, e_f2, o2_some, e_and, and_t, and_f, and_b, e_or, or_b, e_tOf, to_b, e_tAnd, tand_b, e_tOr, tor_b, e_tNot, not_b, e_tYes, e_fIf, fif_b, e_nil, e_cons, cons_some, e_tup, tup_some, e_lst, lst_some, e_call, call_some, e_m1, e_m2, e_sSeq, seqs_l, seqs_t, seqs_s, e_for, for_some, e_asg, tg_some, e_gN, e_gT2, e_gT3, e_frz, frz_own, e_retOwn, ch_b, e_lc, co_some, lc_some, wipe_nil, wipe_cons, end_rt, end_nx, pt_none, pt_some, int_some, e_cut, cut_l, cut_t, e_app, e_sRng, pad_0, sl_f, sl_t, sl_nil, add_i, sub_i, lt_i, le_i, gt_i, ge_i, neg_i, not_d, len_l, len_t, ix_l, ix_t, max2_i, min2_i, tup_l, tup_t, lst_l, lst_t, rev_l, rev_t, bool_i, bool_b, int_b, isn_n, e_chain, e_par, e_m3, List.length_cons, List.length_nil, List.replicate, List.cons_append, List.nil_append, Option.map_some, Nat.reduceAdd, Nat.reduceSub, Nat.zero_add, if_true, if_false, ite_true, ite_false, Bool.false_eq_true, reduceCtorEq, decide_true, decide_false, not_true, not_false_iff, Bool.not_true, Bool.not_false, Bool.and_true, Bool.true_and, Bool.and_false, Bool.false_and, Bool.or_true, Bool.true_or, Bool.or_false, Bool.false_or, ρ1])
      refine ⟨_, _, rfl, ?_, ns.eraseIdx i, ss ++ [(ns[i], st)], .val (.int j), .val (.int x), .val (.int st), by simp [hj2], ?_, ?_, rfl⟩
      · simp only [e_run, e_seq, seq_nx, seq_rt, seq_none, e_skip, e_set, e_own, nxK_some, vK_some, oK_some, e_ret, rtK_some, e_if, ifK_some, e_fVar, e_bVar, va_val, vb_val, vb_own, vb_bor, at_0, at_S, set_0, set_S, e_K, e_f1, o1_some, e_f2, o2_some, e_and, and_t, and_f, and_b, e_or, or_b, e_tOf, to_b, e_tAnd, tand_b, e_tOr, tor_b, e_tNot, not_b, e_tYes, e_fIf, fif_b, e_nil, e_cons, cons_some, e_tup, tup_some, e_lst, lst_some, e_call, call_some, e_m1, e_m2, e_sSeq, seqs_l, seqs_t, seqs_s, e_for, for_some, e_asg, tg_some, e_gN, e_gT2, e_gT3, e_frz, frz_own, e_retOwn, ch_b, e_lc, co_some, lc_some, wipe_nil, wipe_cons, end_rt, end_nx, pt_none, pt_some, int_some, e_cut, cut_l, cut_t, e_app, e_sRng, pad_0, sl_f, sl_t, sl_nil, add_i, sub_i, lt_i, le_i, gt_i, ge_i, neg_i, not_d, len_l, len_t, ix_l, ix_t, max2_i, min2_i, tup_l, tup_t, lst_l, lst_t, rev_l, rev_t, bool_i, bool_b, int_b, isn_n, e_chain, e_par, e_m3, List.length_cons, List.length_nil, List.replicate, List.cons_append, List.nil_append, Option.map_some, Nat.reduceAdd, Nat.reduceSub, Nat.zero_add, if_true, if_false, ite_true, ite_false, Bool.false_eq_true, reduceCtorEq, decide_true, decide_false, not_true, not_false_iff, Bool.not_true, Bool.not_false, Bool.and_true, Bool.true_and, Bool.and_false, Bool.false_and, Bool.or_true, Bool.true_or, Bool.or_false, Bool.false_or, Mi.B_law_cord_1, nums, cast, qx, q1, r3, s1, s2, s3, b8, s4, q4]
        refine (show _ = gAppPop _ _ _ _ ρ1 from rfl).trans (pop.trans ?_)
        simp only [ρ1, set_0, set_S, Int.toNat_natCast, era, List.map_append, List.map_cons, List.map_nil, strD, nums]
      · refine List.Perm.trans ?_ hpm
        rw [List.map_append, List.append_assoc]
        exact List.Perm.append_left _ (erase_perm ns i hi)
      · intro s hs
        rcases List.mem_append.mp hs with h | h
        · exact hst s h
        · rw [List.mem_singleton.mp h]; exact hst2
  obtain ⟨ρ', hρ, ns, ss, a, b, c, hj, hpm, hst, rfl⟩ := loop
  have nd : (ss.map (·.1)).Nodup := (List.nodup_append.mp (hpm.nodup_iff.mpr (by decide))).1
  obtain ⟨c0, hc0, hss, hok⟩ := tied_ok (ss.map fun s => Cd.one s.1 s.2) ((dr.drop 10).take 16) (by intro h; simp at h; subst h; simp at hj; omega) (by simp; omega) (by intro h; have := congrArg List.length h; simp at this; omega) (fun n hn => hp n (List.mem_of_mem_drop (List.mem_of_mem_take hn))) (oks_ones ss) (src := .list (ss.map strD)) (by rw [ds_ones]; rfl)
  rw [sss_ones] at hss
  refine ⟨c0, ?_, hok, ⟨by intro h; rw [hss] at h; subst h; simp at hj; omega, by rw [hss]; omega, by rw [hss]; exact nd, fun s hs => ?_, fun s hs => hst s (hss ▸ hs)⟩⟩
  · have k1 : cutL (dr.map PyData.int) (some 10) (some 26) = ((dr.drop 10).take 16).map PyData.int := by
      rw [show (10 : Int) = ((10 : Nat) : Int) from rfl, show (26 : Int) = ((26 : Nat) : Int) from rfl, cut_mid _ _ _ (by decide) (by rw [List.length_map]; exact hl), List.map_take, List.map_drop]
    have sm := rng_some (j := (many : Int)) (by omega) (by omega)
    have hb : base8.map PyData.str = [.str "ax", .str "bo", .str "cy", .str "dot", .str "elk", .str "fig", .str "gnu", .str "hop"] := rfl
    rw [hb] at hρ
    have z0 : L2.atI (dr.map PyData.int) 0 = some (.int d0) := q0
    simp only [e_run, e_seq, seq_nx, seq_rt, seq_none, e_skip, e_set, e_own, nxK_some, vK_some, oK_some, e_ret, rtK_some, e_if, ifK_some, e_fVar, e_bVar, va_val, vb_val, vb_own, vb_bor, at_0, at_S, set_0, set_S, e_K, e_f1, o1_some, e_f2, o2_some, e_and, and_t, and_f, and_b, e_or, or_b, e_tOf, to_b, e_tAnd, tand_b, e_tOr, tor_b, e_tNot, not_b, e_tYes, e_fIf, fif_b, e_nil, e_cons, cons_some, e_tup, tup_some, e_lst, lst_some, e_call, call_some, e_m1, e_m2, e_sSeq, seqs_l, seqs_t, seqs_s, e_for, for_some, e_asg, tg_some, e_gN, e_gT2, e_gT3, e_frz, frz_own, e_retOwn, ch_b, e_lc, co_some, lc_some, wipe_nil, wipe_cons, end_rt, end_nx, pt_none, pt_some, int_some, e_cut, cut_l, cut_t, e_app, e_sRng, pad_0, sl_f, sl_t, sl_nil, add_i, sub_i, lt_i, le_i, gt_i, ge_i, neg_i, not_d, len_l, len_t, ix_l, ix_t, max2_i, min2_i, tup_l, tup_t, lst_l, lst_t, rev_l, rev_t, bool_i, bool_b, int_b, isn_n, e_chain, e_par, e_m3, List.length_cons, List.length_nil, List.replicate, List.cons_append, List.nil_append, Option.map_some, Nat.reduceAdd, Nat.reduceSub, Nat.zero_add, if_true, if_false, ite_true, ite_false, Bool.false_eq_true, reduceCtorEq, decide_true, decide_false, not_true, not_false_iff, Bool.not_true, Bool.not_false, Bool.and_true, Bool.true_and, Bool.and_false, Bool.false_and, Bool.or_true, Bool.true_or, Bool.or_false, Bool.false_or, Mi.m_law_cord, Mi.G_law_cord, nums, z0, r0, r1, r2, q2, min2_i, sm, Int.toNat_natCast]
    simp only [nums] at hρ hc0
    rw [hρ]
    simp only [e_run, e_seq, seq_nx, seq_rt, seq_none, e_skip, e_set, e_own, nxK_some, vK_some, oK_some, e_ret, rtK_some, e_if, ifK_some, e_fVar, e_bVar, va_val, vb_val, vb_own, vb_bor, at_0, at_S, set_0, set_S, e_K, e_f1, o1_some, e_f2, o2_some, e_and, and_t, and_f, and_b, e_or, or_b, e_tOf, to_b, e_tAnd, tand_b, e_tOr, tor_b, e_tNot, not_b, e_tYes, e_fIf, fif_b, e_nil, e_cons, cons_some, e_tup, tup_some, e_lst, lst_some, e_call, call_some, e_m1, e_m2, e_sSeq, seqs_l, seqs_t, seqs_s, e_for, for_some, e_asg, tg_some, e_gN, e_gT2, e_gT3, e_frz, frz_own, e_retOwn, ch_b, e_lc, co_some, lc_some, wipe_nil, wipe_cons, end_rt, end_nx, pt_none, pt_some, int_some, e_cut, cut_l, cut_t, e_app, e_sRng, pad_0, sl_f, sl_t, sl_nil, add_i, sub_i, lt_i, le_i, gt_i, ge_i, neg_i, not_d, len_l, len_t, ix_l, ix_t, max2_i, min2_i, tup_l, tup_t, lst_l, lst_t, rev_l, rev_t, bool_i, bool_b, int_b, isn_n, e_chain, e_par, e_m3, List.length_cons, List.length_nil, List.replicate, List.cons_append, List.nil_append, Option.map_some, Nat.reduceAdd, Nat.reduceSub, Nat.zero_add, if_true, if_false, ite_true, ite_false, Bool.false_eq_true, reduceCtorEq, decide_true, decide_false, not_true, not_false_iff, Bool.not_true, Bool.not_false, Bool.and_true, Bool.true_and, Bool.and_false, Bool.false_and, Bool.or_true, Bool.true_or, Bool.or_false, Bool.false_or, k1, hc0]
  · rw [hss] at hs
    exact hpm.subset (List.mem_append_left _ (List.mem_map.mpr ⟨s, hs, rfl⟩))
end Fact
set_option maxRecDepth 100000
/-! Sorting of numbers and of texts; dicts by texts. -/
namespace Fact
open PySem Pu
abbrev dle (a b : D) : Bool := PySem.W.dataLe false id a b
theorem dle_eq (a b : D) : dle a b = !PySem.W.dataLt b a := rfl
theorem dle_int (a b : Int) : dle (.int a) (.int b) = decide (a ≤ b) := by
  rw [dle_eq, PySem.W.dataLt_int]
  by_cases h : b < a
  · rw [decide_eq_true h, decide_eq_false (by omega)]; rfl
  · rw [decide_eq_false h, decide_eq_true (by omega)]; rfl
theorem dle_str (a b : Str) : dle (.str a) (.str b) = !decide (b.cps.toList < a.cps.toList) := by rw [dle_eq, PySem.W.dataLt_str]
theorem dle_trans (a b c : D) (h1 : dle a b = true) (h2 : dle b c = true) : dle a c = true := (PySem.W.sortLe_total (PyProof.Rows.listOrd PyProof.Rows.itemOrd) false fun d : D => PySem.W.keyToks d).trans a b c h1 h2
theorem dle_total (a b : D) : (dle a b || dle b a) = true := Bool.or_eq_true_iff.mpr <| (PySem.W.sortLe_total (PyProof.Rows.listOrd PyProof.Rows.itemOrd) false fun d : D => PySem.W.keyToks d).total a b
mutual
theorem eqv_same : ∀ (x y : D), PySem.W.alike x y = true → PyData.eqv x y = true → x = y
  | .none, y, h, _ => by cases y <;> first | rfl | cases h
  | .bool a, y, h, e => by
    cases y <;> first | cases h | skip
    simp [PyData.eqv] at e; rw [e]
  | .int a, y, h, e => by
    cases y <;> first | cases h | skip
    simp [PyData.eqv] at e; rw [e]
  | .str a, y, h, e => by
    cases y <;> first | cases h | skip
    simp [PyData.eqv] at e; rw [e]
  | .list xs, y, h, e => by
    cases y <;> first | cases h | skip
    rename_i ys
    rw [eqvs_same xs ys (by simpa [PySem.W.alike] using h) (by simpa [PyData.eqv] using e)]
  | .tuple xs, y, h, e => by
    cases y <;> first | cases h | skip
    rename_i ys
    rw [eqvs_same xs ys (by simpa [PySem.W.alike] using h) (by simpa [PyData.eqv] using e)]
  | .dict _, y, h, _ => by cases y <;> cases h
theorem eqvs_same : ∀ (xs ys : List D), PySem.W.alikeAll xs ys = true → PyData.eqvAll xs ys = true → xs = ys
  | [], [], _, _ => rfl
  | [], _ :: _, _, e => by simp [PyData.eqvAll] at e
  | _ :: _, [], _, e => by simp [PyData.eqvAll] at e
  | x :: xs, y :: ys, h, e => by
    obtain ⟨h1, h2⟩ := PySem.W.alike_all_cons h
    rw [PySem.W.eqv_all_cons, Bool.and_eq_true] at e
    rw [eqv_same x y h1 e.1, eqvs_same xs ys h2 e.2]
end
theorem toks_inj {x y : D} (h : PySem.W.alike x y = true) (e : PySem.W.keyToks x = PySem.W.keyToks y) : x = y := by
  refine eqv_same x y h ?_
  cases q : PyData.eqv x y with
  | true => rfl
  | false =>
    have h2 := (PySem.W.toks_eqv x y h).2 q [] [.inl 0]
    rw [e, List.append_nil] at h2
    have h3 : PyProof.Rows.lexLt PyProof.Rows.itemOrd (PySem.W.keyToks y ++ []) (PySem.W.keyToks y ++ [.inl 0]) = PyProof.Rows.lexLt PyProof.Rows.itemOrd [] [.inl 0] := PySem.W.lex_pre _ _ _
    rw [List.append_nil] at h3
    have h4 : PyProof.Rows.lexLt PyProof.Rows.itemOrd (PySem.W.keyToks y) (PySem.W.keyToks y) = false := (PyProof.Rows.listOrd PyProof.Rows.itemOrd).irrefl _
    rw [h3, h4] at h2
    cases h2
theorem dle_anti {x y : D} (h : PySem.W.alike x y = true) (h1 : dle x y = true) (h2 : dle y x = true) : x = y := by
  refine toks_inj h ((PyProof.Rows.listOrd PyProof.Rows.itemOrd).total _ _ ?_ ?_)
  · have : (!PySem.W.dataLt x y) = true := h2
    rw [Bool.not_eq_true'] at this
    exact this
  · have : (!PySem.W.dataLt y x) = true := h1
    rw [Bool.not_eq_true'] at this
    exact this
theorem sortL_perm (ds : List D) : (sortL ds).Perm ds := List.mergeSort_perm ds _
theorem sortL_sorted (ds : List D) : (sortL ds).Pairwise fun a b => dle a b = true := List.pairwise_mergeSort (fun a b c => dle_trans a b c) (fun a b => dle_total a b) ds
theorem sorted_same : ∀ {xs ys : List D}, PySem.W.AllAlike xs → xs.Perm ys → xs.Pairwise (fun a b => dle a b = true) → ys.Pairwise (fun a b => dle a b = true) → xs = ys
  | [], ys, _, p, _, _ => by rw [List.nil_perm.mp p]
  | x :: xs, [], _, p, _, _ => absurd p.length_eq (by simp)
  | x :: xs, y :: ys, al, p, h1, h2 => by
    have e : x = y := by
      have mx : x ∈ y :: ys := p.subset List.mem_cons_self
      have my : y ∈ x :: xs := p.symm.subset List.mem_cons_self
      rcases List.mem_cons.mp mx with e | mx
      · exact e
      · rcases List.mem_cons.mp my with e | my
        · exact e.symm
        · exact dle_anti (al x List.mem_cons_self y (List.mem_cons_of_mem _ my)) ((List.pairwise_cons.mp h1).1 y my) ((List.pairwise_cons.mp h2).1 x mx)
    subst e
    rw [sorted_same (xs := xs) (ys := ys) (fun a ha b hb => al a (List.mem_cons_of_mem _ ha) b (List.mem_cons_of_mem _ hb)) (List.perm_cons _ |>.mp p) (List.pairwise_cons.mp h1).2 (List.pairwise_cons.mp h2).2]
/-- lists of the same things sort alike -/
theorem sortL_congr {xs ys : List D} (al : PySem.W.AllAlike xs) (p : xs.Perm ys) : sortL xs = sortL ys := by
  have q := sortL_perm xs
  refine sorted_same (fun a ha b hb => al a (q.mem_iff.mp ha) b (q.mem_iff.mp hb)) (q.trans (p.trans (sortL_perm ys).symm)) (sortL_sorted xs) (sortL_sorted ys)
theorem sortL_of {xs ys : List D} (al : PySem.W.AllAlike xs) (p : xs.Perm ys) (h : ys.Pairwise fun a b => dle a b = true) : sortL xs = ys := by
  have q := sortL_perm xs
  exact sorted_same (fun a ha b hb => al a (q.mem_iff.mp ha) b (q.mem_iff.mp hb)) (q.trans p) (sortL_sorted xs) h
/-! by a map -/
theorem sortL_map {α : Type} (f : α → D) (le : α → α → Bool) (h : ∀ a b, dle (f a) (f b) = le a b) (xs : List α) : sortL (xs.map f) = (xs.mergeSort le).map f := by
  unfold sortL
  exact (List.map_mergeSort (fun a _ b _ => (h a b).symm)).symm
end Fact
set_option maxRecDepth 100000
/-! Strengths: what a tie of parts bears. -/
namespace Fact
open PySem Pu
/-- numbers from the greatest down -/
def desc (ns : List Int) : List Int := (ns.mergeSort fun a b => decide (a ≤ b)).reverse
/-- the greatest of (k + 1) * the k-th -/
def bestL : Nat → List Int → Option Int
  | _, [] => none
  | k, [n] => some (((k + 1 : Nat) : Int) * n)
  | k, n :: r => (bestL (k + 1) r).map fun m => max (((k + 1 : Nat) : Int) * n) m
def best (ns : List Int) : Int := (bestL 0 (desc ns)).getD 0
mutual
def gr : Cd → Int
  | .one _ n => n
  | .tie ps => best (grs ps)
def grs : List Cd → List Int
  | [] => []
  | c :: cs => gr c :: grs cs
end
theorem grs_map : ∀ cs : List Cd, grs cs = cs.map gr
  | [] => rfl
  | c :: cs => by simp [grs, grs_map cs]
theorem desc_perm (ns : List Int) : (desc ns).Perm ns := (List.reverse_perm _).trans (List.mergeSort_perm ns _)
theorem desc_sorted (ns : List Int) : (desc ns).Pairwise fun a b => b ≤ a := by
  unfold desc
  rw [List.pairwise_reverse]
  refine (List.pairwise_mergeSort (le := fun a b : Int => decide (a ≤ b)) (fun a b c h1 h2 => ?_) (fun a b => ?_) ns).imp fun {a b} h => of_decide_eq_true h
  · have := of_decide_eq_true h1; have := of_decide_eq_true h2; exact decide_eq_true (by omega)
  · by_cases h : a ≤ b
    · simp [h]
    · simp [h]; omega
/-- how many bear so much -/
def many (P : Int → Bool) (ns : List Int) : Nat := (ns.filter P).length
theorem many_perm {P : Int → Bool} {a b : List Int} (h : a.Perm b) : many P a = many P b := (h.filter P).length_eq
/-- in falling order: the k-th one has P iff more than k have it (P holds upwards) -/
theorem desc_at {P : Int → Bool} (up : ∀ a b : Int, a ≤ b → P a = true → P b = true) : ∀ {ns : List Int}, ns.Pairwise (fun a b => b ≤ a) → ∀ (k : Nat) (n : Int), ns[k]? = some n → (P n = true ↔ k < many P ns)
  | [], _, k, n, h => by cases h
  | a :: r, hs, 0, n, h => by
    cases h
    unfold many
    cases hp : P a with
    | true => simp [hp]
    | false =>
      have : r.filter P = [] := List.filter_eq_nil_iff.mpr fun b hb hP => by
        have := up b a ((List.pairwise_cons.mp hs).1 b hb) hP
        rw [hp] at this; cases this
      simp [hp, this]
  | a :: r, hs, k + 1, n, h => by
    have hr : r[k]? = some n := by simpa using h
    have ih := desc_at up (List.pairwise_cons.mp hs).2 k n hr
    unfold many at ih ⊢
    cases hp : P a with
    | true => simp [hp, ih]
    | false =>
      have : r.filter P = [] := List.filter_eq_nil_iff.mpr fun b hb hP => by
        have := up b a ((List.pairwise_cons.mp hs).1 b hb) hP
        rw [hp] at this; cases this
      rw [this] at ih
      simp [hp, this, ih]
theorem le_max_mul {p x y q : Int} (hq : 0 ≤ q) : p ≤ max x y * q ↔ p ≤ x * q ∨ p ≤ y * q := by
  rcases Int.le_total x y with h | h
  · rw [Int.max_eq_right h]
    exact ⟨Or.inr, fun g => g.elim (fun g => Int.le_trans g (Int.mul_le_mul_of_nonneg_right h hq)) id⟩
  · rw [Int.max_eq_left h]
    exact ⟨Or.inl, fun g => g.elim id fun g => Int.le_trans g (Int.mul_le_mul_of_nonneg_right h hq)⟩
/-- best bears p / q iff some k of them bear p / (q k) each -/
theorem bestL_le {p q : Int} (hq : 0 ≤ q) : ∀ {ns : List Int} {k : Nat} {m : Int}, bestL k ns = some m → (p ≤ m * q ↔ ∃ j n, ns[j]? = some n ∧ p ≤ ((k + j + 1 : Nat) : Int) * n * q)
  | [], _, _, h => by cases h
  | [n], k, m, h => by
    cases h
    constructor
    · intro g
      exact ⟨0, n, rfl, g⟩
    · rintro ⟨j, n', h1, h2⟩
      cases j with
      | zero => cases h1; exact h2
      | succ j => simp at h1
  | n :: n2 :: r, k, m, h => by
    obtain ⟨m', h1, rfl⟩ := Option.map_eq_some_iff.mp h
    have ih := bestL_le (p := p) hq h1
    rw [le_max_mul hq, ih]
    constructor
    · rintro (g | ⟨j, n', h2, h3⟩)
      · exact ⟨0, n, rfl, g⟩
      · exact ⟨j + 1, n', h2, by rw [show k + (j + 1) + 1 = k + 1 + j + 1 by omega]; exact h3⟩
    · rintro ⟨j, n', h2, h3⟩
      cases j with
      | zero => cases h2; exact Or.inl h3
      | succ j => exact Or.inr ⟨j, n', h2, by rw [show k + 1 + j + 1 = k + (j + 1) + 1 by omega]; exact h3⟩
theorem bestL_some : ∀ {ns : List Int} (k : Nat), ns ≠ [] → ∃ m, bestL k ns = some m
  | [], _, h => absurd rfl h
  | [n], k, _ => ⟨_, rfl⟩
  | n :: n2 :: r, k, _ => by
    obtain ⟨m, h⟩ := bestL_some (ns := n2 :: r) (k + 1) (by simp)
    exact ⟨max (((k + 1 : Nat) : Int) * n) m, by show (bestL (k + 1) (n2 :: r)).map _ = _; rw [h]; rfl⟩
/-- a part of strength n bears p / (q j) -/
def bears (p q : Int) (j : Nat) (n : Int) : Bool := decide (p ≤ (j : Int) * n * q)
theorem bears_up {p q : Int} (hq : 0 ≤ q) (j : Nat) : ∀ a b : Int, a ≤ b → bears p q j a = true → bears p q j b = true := fun a b h g => by
  unfold bears at g ⊢
  have g := of_decide_eq_true g
  exact decide_eq_true (Int.le_trans g (Int.mul_le_mul_of_nonneg_right (Int.mul_le_mul_of_nonneg_left h (by omega)) hq))
theorem best_le {p q : Int} (hq : 0 ≤ q) {ns : List Int} (h : ns ≠ []) : p ≤ best ns * q ↔ ∃ j, 1 ≤ j ∧ j ≤ ns.length ∧ j ≤ many (bears p q j) ns := by
  have hd : desc ns ≠ [] := fun e => h (by have := (desc_perm ns).length_eq; rw [e] at this; exact List.length_eq_zero_iff.mp this.symm)
  obtain ⟨m, hm⟩ := bestL_some 0 hd
  have e : best ns = m := by unfold best; rw [hm]; rfl
  rw [e, bestL_le hq hm]
  constructor
  · rintro ⟨j, n, h1, h2⟩
    have hl : j < (desc ns).length := (List.getElem?_eq_some_iff.mp h1).1
    rw [(desc_perm ns).length_eq] at hl
    refine ⟨j + 1, by omega, by omega, ?_⟩
    have := (desc_at (bears_up (p := p) hq (j + 1)) (desc_sorted ns) j n h1).mp (decide_eq_true (by rw [show 0 + j + 1 = j + 1 by omega] at h2; exact h2))
    rw [many_perm (desc_perm ns)] at this
    exact this
  · rintro ⟨j, h1, h2, h3⟩
    obtain ⟨i, rfl⟩ : ∃ i, j = i + 1 := ⟨j - 1, by omega⟩
    have hl : i < (desc ns).length := by rw [(desc_perm ns).length_eq]; omega
    refine ⟨i, (desc ns)[i], List.getElem?_eq_getElem hl, ?_⟩
    have := (desc_at (bears_up (p := p) hq (i + 1)) (desc_sorted ns) i _ (List.getElem?_eq_getElem hl)).mpr (by rw [many_perm (desc_perm ns)]; exact h3)
    rw [show 0 + i + 1 = i + 1 by omega]
    exact of_decide_eq_true this
end Fact
set_option maxRecDepth 100000
/-! Who holds: the greatest lot that no strand of it breaks out of. -/
namespace Fact
open PySem Pu
def goods (p q : Int) (ns : List Int) : List Nat := ((List.range ns.length).filter fun k => decide (k < many (bears p q (k + 1)) ns)).map (· + 1)
/-- the most parts that can bear the load together -/
def mx (p q : Int) (ns : List Int) : Nat := (goods p q ns).getLast?.getD 0
theorem many_le (P : Int → Bool) (ns : List Int) : many P ns ≤ ns.length := List.length_filter_le _ _
theorem goods_mem {p q : Int} {ns : List Int} {j : Nat} : j ∈ goods p q ns ↔ 1 ≤ j ∧ j ≤ many (bears p q j) ns := by
  unfold goods
  constructor
  · intro h
    obtain ⟨k, h1, rfl⟩ := List.mem_map.mp h
    obtain ⟨h2, h3⟩ := List.mem_filter.mp h1
    have := of_decide_eq_true h3
    omega
  · rintro ⟨h1, h2⟩
    have := many_le (bears p q j) ns
    refine List.mem_map.mpr ⟨j - 1, List.mem_filter.mpr ⟨List.mem_range.mpr (by omega), decide_eq_true ?_⟩, by omega⟩
    rw [show j - 1 + 1 = j by omega]
    omega
theorem goods_sorted (p q : Int) (ns : List Int) : (goods p q ns).Pairwise (· < ·) := by
  unfold goods
  exact List.pairwise_map.mpr (((List.pairwise_lt_range).filter _).imp fun {a b} h => by omega)
theorem last_max : ∀ {l : List Nat}, l.Pairwise (· < ·) → ∀ {m : Nat}, l.getLast? = some m → ∀ j ∈ l, j ≤ m
  | [], _, m, h, _, _ => by cases h
  | [a], _, m, h, j, hj => by cases h; rw [List.mem_singleton.mp hj]; exact Nat.le_refl _
  | a :: b :: r, hs, m, h, j, hj => by
    have h' : (b :: r).getLast? = some m := by simpa [List.getLast?_cons_cons] using h
    have ih := last_max (List.pairwise_cons.mp hs).2 h'
    rcases List.mem_cons.mp hj with rfl | hj
    · have := (List.pairwise_cons.mp hs).1 b List.mem_cons_self
      have := ih b List.mem_cons_self
      omega
    · exact ih j hj
theorem mx_max {p q : Int} {ns : List Int} {j : Nat} (h1 : 1 ≤ j) (h2 : j ≤ many (bears p q j) ns) : j ≤ mx p q ns := by
  have hm := goods_mem.mpr ⟨h1, h2⟩
  cases e : (goods p q ns).getLast? with
  | none => rw [List.getLast?_eq_none_iff] at e; rw [e] at hm; cases hm
  | some m =>
    unfold mx
    rw [e]
    exact last_max (goods_sorted p q ns) e j hm
theorem mx_good {p q : Int} {ns : List Int} (h : mx p q ns ≠ 0) : mx p q ns ≤ many (bears p q (mx p q ns)) ns := by
  cases e : (goods p q ns).getLast? with
  | none => exact absurd (by unfold mx; rw [e]; rfl) h
  | some m =>
    have hm := goods_mem.mp (List.mem_of_getLast? e)
    have : mx p q ns = m := by unfold mx; rw [e]; rfl
    rw [this]
    exact hm.2
theorem pos_of_bears {p q n : Int} {j : Nat} (hq : 0 < q) (hp : 0 ≤ p) (hj : 1 ≤ j) (h : bears p q j n = true) : 0 ≤ n := by
  have h := of_decide_eq_true h
  rcases Int.lt_or_le n 0 with hn | hn
  · have h1 : (j : Int) * n < 0 := Int.mul_neg_of_pos_of_neg (by omega) hn
    have h2 : (j : Int) * n * q < 0 := Int.mul_neg_of_neg_of_pos h1 hq
    omega
  · exact hn
theorem bears_more {p q n : Int} {i j : Nat} (hq : 0 < q) (hp : 0 ≤ p) (hi : 1 ≤ i) (hij : i ≤ j) (h : bears p q i n = true) : bears p q j n = true := by
  have hn := pos_of_bears hq hp hi h
  have h := of_decide_eq_true h
  refine decide_eq_true (Int.le_trans h ?_)
  exact Int.mul_le_mul_of_nonneg_right (Int.mul_le_mul_of_nonneg_right (by omega) hn) (Int.le_of_lt hq)
theorem many_mono {P Q : Int → Bool} (h : ∀ n, P n = true → Q n = true) (ns : List Int) : many P ns ≤ many Q ns := by
  unfold many
  induction ns with
  | nil => exact Nat.le_refl _
  | cons a r ih =>
    cases hp : P a with
    | true => rw [List.filter_cons_of_pos hp, List.filter_cons_of_pos (h a hp)]; simp; omega
    | false =>
      rw [List.filter_cons_of_neg (by simp [hp])]
      cases hq : Q a with
      | true => rw [List.filter_cons_of_pos hq]; simp; omega
      | false => rw [List.filter_cons_of_neg (by simp [hq])]; exact ih
/-- just so many bear it -/
theorem mx_exact {p q : Int} {ns : List Int} (hq : 0 < q) (hp : 0 ≤ p) (h : mx p q ns ≠ 0) : many (bears p q (mx p q ns)) ns = mx p q ns := by
  have h1 := mx_good h
  have h2 : many (bears p q (mx p q ns)) ns ≤ mx p q ns := by
    refine mx_max (by omega) ?_
    exact many_mono (fun n hn => bears_more hq hp (by omega) h1 hn) ns
  omega
theorem mx_zero {p q : Int} {ns : List Int} (hq : 0 < q) (h : ns ≠ []) : mx p q ns ≠ 0 ↔ p ≤ best ns * q := by
  rw [best_le (Int.le_of_lt hq) h]
  constructor
  · intro e
    have := mx_good e
    have := many_le (bears p q (mx p q ns)) ns
    exact ⟨mx p q ns, by omega, by omega, by omega⟩
  · rintro ⟨j, h1, _, h3⟩
    have := mx_max h1 h3
    omega
mutual
/-- those that hold, each with its share p / q' -/
def shs (p q : Int) : Cd → List (Str × Int)
  | .one x n => if p ≤ n * q then [(x, q)] else []
  | .tie ps => if mx p q (grs ps) = 0 then [] else shss p (q * mx p q (grs ps)) ps
def shss (p q : Int) : List Cd → List (Str × Int)
  | [] => []
  | c :: cs => shs p q c ++ shss p q cs
end
theorem shss_flat (p q : Int) : ∀ cs : List Cd, shss p q cs = cs.flatMap (shs p q)
  | [] => rfl
  | c :: cs => by simp [shss, shss_flat p q cs]
theorem bears_gr {p q : Int} {j : Nat} {n : Int} : bears p q j n = true ↔ p ≤ n * (q * j) := by
  unfold bears
  rw [decide_eq_true_eq, show (j : Int) * n * q = n * (q * j) by rw [Int.mul_comm (j : Int) n, Int.mul_assoc, Int.mul_comm (j : Int) q]]
theorem many_pos {P : Int → Bool} {ns : List Int} (h : 1 ≤ many P ns) : ∃ n ∈ ns, P n = true := by
  unfold many at h
  match e : ns.filter P, h with
  | a :: r, _ =>
    have : a ∈ ns.filter P := by rw [e]; exact List.mem_cons_self
    exact ⟨a, List.mem_filter.mp this⟩
theorem flatMap_ne {α β : Type} {f : α → List β} {l : List α} : l.flatMap f ≠ [] ↔ ∃ a ∈ l, f a ≠ [] := by
  simp [List.flatMap_eq_nil_iff]
mutual
/-- some hold just where the cord is so strong -/
theorem shs_ne : ∀ (c : Cd) (p q : Int), c.ok → 0 < q → 0 ≤ p → (shs p q c ≠ [] ↔ p ≤ gr c * q)
  | .one x n, p, q, _, _, _ => by
    simp only [shs, gr]
    by_cases h : p ≤ n * q <;> simp [h]
  | .tie ps, p, q, ok, hq, hp => by
    obtain ⟨h1, h2⟩ := (by simpa only [Cd.ok] using ok : 2 ≤ ps.length ∧ Cd.oks ps)
    have hne : grs ps ≠ [] := by rw [grs_map]; intro e; have := congrArg List.length e; simp at this; rw [this] at h1; simp at h1
    simp only [shs, gr]
    rw [← mx_zero hq hne]
    by_cases hm : mx p q (grs ps) = 0
    · simp [hm]
    · simp only [hm, if_false, ne_eq, not_false_iff, iff_true]
      have hqm : 0 < q * (mx p q (grs ps) : Int) := Int.mul_pos hq (by omega)
      obtain ⟨n, hn, hb⟩ := many_pos (Nat.le_trans (Nat.one_le_iff_ne_zero.mpr hm) (mx_good hm))
      rw [shss_flat]
      refine flatMap_ne.mpr ?_
      rw [grs_map] at hn
      obtain ⟨c, hc, rfl⟩ := List.mem_map.mp hn
      exact ⟨c, hc, (shss_ne ps p _ h2 hqm hp c hc).mpr (bears_gr.mp hb)⟩
theorem shss_ne : ∀ (cs : List Cd) (p q : Int), Cd.oks cs → 0 < q → 0 ≤ p → ∀ c ∈ cs, (shs p q c ≠ [] ↔ p ≤ gr c * q)
  | [], _, _, _, _, _, c, h => by cases h
  | a :: r, p, q, ok, hq, hp, c, h => by
    obtain ⟨h1, h2⟩ := (by simpa only [Cd.oks] using ok : a.ok ∧ Cd.oks r)
    rcases List.mem_cons.mp h with e | h
    · rw [e]; exact shs_ne a p q h1 hq hp
    · exact shss_ne r p q h2 hq hp c h
end
end Fact
set_option maxRecDepth 100000
/-! Counts of a lot; lots that nothing breaks out of. -/
namespace Fact
open PySem Pu
abbrev Lot := Str → Bool
def alive (S : Lot) (c : Cd) : Bool := c.ss.any fun s => S s.1
def live (S : Lot) (ps : List Cd) : Nat := (ps.filter (alive S)).length
abbrev Ct := Str × Int × Nat
def scale (a : Nat) (l : List Ct) : List Ct := l.map fun t => (t.1, t.2.1, a * t.2.2)
mutual
/-- those of the lot: name, strength, count -/
def cnt (S : Lot) : Cd → List Ct
  | .one x n => if S x then [(x, n, 1)] else []
  | .tie ps => scale (live S ps) (cnts S ps)
def cnts (S : Lot) : List Cd → List Ct
  | [] => []
  | c :: cs => cnt S c ++ cnts S cs
end
theorem cnts_flat (S : Lot) : ∀ cs : List Cd, cnts S cs = cs.flatMap (cnt S)
  | [] => rfl
  | c :: cs => by simp [cnts, cnts_flat S cs]
theorem sss_flat : ∀ cs : List Cd, Cd.sss cs = cs.flatMap Cd.ss
  | [] => rfl
  | c :: cs => by simp [Cd.sss, sss_flat cs]
theorem scale_mem {a : Nat} {l : List Ct} {t : Ct} : t ∈ scale a l ↔ ∃ u ∈ l, t = (u.1, u.2.1, a * u.2.2) := by
  unfold scale
  simp [eq_comm]
mutual
/-- its names and strengths are the cord's own, in their order -/
theorem cnt_names (S : Lot) : ∀ c : Cd, (cnt S c).map (fun t => (t.1, t.2.1)) = c.ss.filter fun s => S s.1
  | .one x n => by
    simp only [cnt, Cd.ss]
    by_cases h : S x <;> simp [h]
  | .tie ps => by
    simp only [cnt, Cd.ss, scale, List.map_map]
    exact cnts_names S ps
theorem cnts_names (S : Lot) : ∀ cs : List Cd, (cnts S cs).map (fun t => (t.1, t.2.1)) = (Cd.sss cs).filter fun s => S s.1
  | [] => rfl
  | c :: cs => by simp only [cnts, Cd.sss, List.map_append, List.filter_append, cnt_names S c, cnts_names S cs]
end
theorem cnt_ne {S : Lot} {c : Cd} : cnt S c ≠ [] ↔ alive S c = true := by
  have h := cnt_names S c
  unfold alive
  constructor
  · intro hne
    cases e : cnt S c with
    | nil => exact absurd e hne
    | cons t r =>
      rw [e] at h
      have : (t.1, t.2.1) ∈ c.ss.filter fun s => S s.1 := by rw [← h]; simp
      obtain ⟨h1, h2⟩ := List.mem_filter.mp this
      exact List.any_eq_true.mpr ⟨_, h1, h2⟩
  · intro ha e
    rw [e] at h
    obtain ⟨s, h1, h2⟩ := List.any_eq_true.mp ha
    have : s ∈ c.ss.filter fun s => S s.1 := List.mem_filter.mpr ⟨h1, h2⟩
    rw [← h] at this
    cases this
theorem cnt_in {S : Lot} {c : Cd} {t : Ct} (h : t ∈ cnt S c) : (t.1, t.2.1) ∈ c.ss ∧ S t.1 = true := by
  have : (t.1, t.2.1) ∈ (cnt S c).map fun t => (t.1, t.2.1) := List.mem_map.mpr ⟨t, h, rfl⟩
  rw [cnt_names] at this
  obtain ⟨h1, h2⟩ := List.mem_filter.mp this
  exact ⟨h1, h2⟩
theorem cnt_has {S : Lot} {c : Cd} {s : Str × Int} (h : s ∈ c.ss) (hS : S s.1 = true) : ∃ k, (s.1, s.2, k) ∈ cnt S c := by
  have : s ∈ (cnt S c).map fun t => (t.1, t.2.1) := by rw [cnt_names]; exact List.mem_filter.mpr ⟨h, hS⟩
  obtain ⟨t, h1, rfl⟩ := List.mem_map.mp this
  exact ⟨t.2.2, h1⟩
theorem live_pos {S : Lot} {ps : List Cd} {c : Cd} (h : c ∈ ps) (ha : alive S c = true) : 1 ≤ live S ps := by
  unfold live
  exact List.length_pos_iff.mpr (List.ne_nil_of_mem (List.mem_filter.mpr ⟨h, ha⟩))
mutual
theorem cnt_pos (S : Lot) : ∀ (c : Cd) (t : Ct), t ∈ cnt S c → 1 ≤ t.2.2
  | .one x n, t, h => by
    simp only [cnt] at h
    split at h
    · rw [List.mem_singleton.mp h]; exact Nat.le_refl _
    · cases h
  | .tie ps, t, h => by
    simp only [cnt] at h
    obtain ⟨u, h1, rfl⟩ := scale_mem.mp h
    have h2 := cnts_pos S ps u h1
    have h3 : 1 ≤ live S ps := by
      rw [cnts_flat] at h1
      obtain ⟨c, hc, hu⟩ := List.mem_flatMap.mp h1
      exact live_pos hc (cnt_ne.mp (List.ne_nil_of_mem hu))
    exact Nat.mul_pos h3 h2
theorem cnts_pos (S : Lot) : ∀ (cs : List Cd) (t : Ct), t ∈ cnts S cs → 1 ≤ t.2.2
  | [], t, h => by cases h
  | c :: cs, t, h => by
    simp only [cnts] at h
    rcases List.mem_append.mp h with h | h
    · exact cnt_pos S c t h
    · exact cnts_pos S cs t h
end
/-- nothing of the lot breaks -/
def Stable (p q : Int) (S : Lot) (c : Cd) : Prop := ∀ t ∈ cnt S c, p ≤ t.2.1 * (q * t.2.2)
mutual
/-- such a lot is among those that hold -/
theorem stable_in : ∀ (c : Cd) (p q : Int) (S : Lot), c.ok → 0 < q → 0 ≤ p → Stable p q S c → ∀ t ∈ cnt S c, ∃ q', (t.1, q') ∈ shs p q c
  | .one x n, p, q, S, _, hq, hp, st, t, ht => by
    have h := st t ht
    simp only [cnt] at ht
    split at ht
    · rw [List.mem_singleton.mp ht] at h ⊢
      refine ⟨q, ?_⟩
      simp only [shs]
      rw [if_pos (by simpa using h)]
      exact List.mem_singleton.mpr rfl
    · cases ht
  | .tie ps, p, q, S, ok, hq, hp, st, t, ht => by
    obtain ⟨ok1, ok2⟩ := (by simpa only [Cd.ok] using ok : 2 ≤ ps.length ∧ Cd.oks ps)
    have ht' := ht
    simp only [cnt] at ht'
    obtain ⟨u, hu, rfl⟩ := scale_mem.mp ht'
    rw [cnts_flat] at hu
    obtain ⟨c, hc, huc⟩ := List.mem_flatMap.mp hu
    have a1 : 1 ≤ live S ps := live_pos hc (cnt_ne.mp (List.ne_nil_of_mem huc))
    have hqa : 0 < q * (live S ps : Int) := Int.mul_pos hq (by omega)
    -- each live part is stable under its share
    have stp : ∀ d ∈ ps, ∀ v ∈ cnt S d, p ≤ v.2.1 * (q * (live S ps : Int) * v.2.2) := fun d hd v hv => by
      have h2 := st (v.1, v.2.1, live S ps * v.2.2) (by
        simp only [cnt]
        exact scale_mem.mpr ⟨v, by rw [cnts_flat]; exact List.mem_flatMap.mpr ⟨d, hd, hv⟩, rfl⟩)
      simp only at h2
      rw [Int.mul_assoc]
      rw [Int.natCast_mul] at h2
      exact h2
    have good : live S ps ≤ many (bears p q (live S ps)) (grs ps) := by
      have : ∀ l : List Cd, (∀ d ∈ l, d ∈ ps) → (l.filter (alive S)).length ≤ many (bears p q (live S ps)) (grs l) := fun l hl => by
        induction l with
        | nil => exact Nat.le_refl _
        | cons d l ih =>
          have ih := ih fun e he => hl e (List.mem_cons_of_mem _ he)
          unfold many at ih ⊢
          simp only [grs]
          cases hd : alive S d with
          | false =>
            rw [List.filter_cons_of_neg (by simp [hd])]
            cases hb : bears p q (live S ps) (gr d) with
            | true => rw [List.filter_cons_of_pos hb]; simp; omega
            | false => rw [List.filter_cons_of_neg (by simp [hb])]; exact ih
          | true =>
            have hdp := hl d List.mem_cons_self
            have hb : bears p q (live S ps) (gr d) = true := by
              refine bears_gr.mpr ((shss_ne ps p _ ok2 hqa hp d hdp).mp ?_)
              cases e : cnt S d with
              | nil => exact absurd e (cnt_ne.mpr hd)
              | cons v r =>
                obtain ⟨q', hq'⟩ := stables_in ps p (q * (live S ps : Int)) S ok2 hqa hp (fun d hd => stp d hd) d hdp v (by rw [e]; exact List.mem_cons_self)
                exact List.ne_nil_of_mem hq'
            rw [List.filter_cons_of_pos hd, List.filter_cons_of_pos hb]
            simp; omega
      exact this ps fun _ h => h
    have hm : live S ps ≤ mx p q (grs ps) := mx_max a1 good
    have hqm : 0 < q * (mx p q (grs ps) : Int) := Int.mul_pos hq (by omega)
    have stm : ∀ d ∈ ps, Stable p (q * (mx p q (grs ps) : Int)) S d := fun d hd v hv => by
      have h1 := stp d hd v hv
      have k1 := cnt_pos S d v hv
      have n0 : 0 ≤ v.2.1 := by
        rcases Int.lt_or_le v.2.1 0 with hn | hn
        · have : v.2.1 * (q * (live S ps : Int) * v.2.2) < 0 := Int.mul_neg_of_neg_of_pos hn (Int.mul_pos hqa (by omega))
          omega
        · exact hn
      refine Int.le_trans h1 (Int.mul_le_mul_of_nonneg_left (Int.mul_le_mul_of_nonneg_right (Int.mul_le_mul_of_nonneg_left (by omega) (Int.le_of_lt hq)) (by omega)) n0)
    obtain ⟨q', hq'⟩ := stables_in ps p _ S ok2 hqm hp stm c hc u huc
    refine ⟨q', ?_⟩
    simp only [shs]
    rw [if_neg (by omega), shss_flat]
    exact List.mem_flatMap.mpr ⟨c, hc, hq'⟩
theorem stables_in : ∀ (cs : List Cd) (p q : Int) (S : Lot), Cd.oks cs → 0 < q → 0 ≤ p → (∀ c ∈ cs, Stable p q S c) → ∀ c ∈ cs, ∀ t ∈ cnt S c, ∃ q', (t.1, q') ∈ shs p q c
  | [], _, _, _, _, _, _, _, c, h, _, _ => by cases h
  | a :: r, p, q, S, ok, hq, hp, st, c, h, t, ht => by
    obtain ⟨h1, h2⟩ := (by simpa only [Cd.oks] using ok : a.ok ∧ Cd.oks r)
    rcases List.mem_cons.mp h with e | h
    · rw [e] at ht ⊢
      exact stable_in a p q S h1 hq hp (st a List.mem_cons_self) t ht
    · exact stables_in r p q S h2 hq hp (fun c hc => st c (List.mem_cons_of_mem _ hc)) c h t ht
end
end Fact
set_option maxRecDepth 100000
/-! Those that hold are such a lot. -/
namespace Fact
open PySem Pu
def nms (c : Cd) : List Str := c.ss.map (·.1)
def nmss (cs : List Cd) : List Str := (Cd.sss cs).map (·.1)
theorem alive_congr {S T : Lot} {c : Cd} (h : ∀ x ∈ nms c, S x = T x) : alive S c = alive T c := by
  unfold alive
  have : ∀ l : List (Str × Int), (∀ s ∈ l, S s.1 = T s.1) → l.any (fun s => S s.1) = l.any fun s => T s.1 := fun l hl => by
    induction l with
    | nil => rfl
    | cons a l ih => rw [List.any_cons, List.any_cons, hl a List.mem_cons_self, ih fun s m => hl s (List.mem_cons_of_mem _ m)]
  exact this c.ss fun s m => h s.1 (List.mem_map.mpr ⟨s, m, rfl⟩)
theorem nms_sub {ps : List Cd} {c : Cd} (h : c ∈ ps) : ∀ x ∈ nms c, x ∈ nmss ps := fun x hx => by
  obtain ⟨s, hs, rfl⟩ := List.mem_map.mp hx
  exact List.mem_map.mpr ⟨s, by rw [sss_flat]; exact List.mem_flatMap.mpr ⟨c, h, hs⟩, rfl⟩
theorem live_congr {S T : Lot} {ps : List Cd} (h : ∀ x ∈ nmss ps, S x = T x) : live S ps = live T ps := by
  unfold live
  rw [List.filter_congr fun c hc => alive_congr fun x hx => h x (nms_sub hc x hx)]
mutual
theorem cnt_congr : ∀ (c : Cd) (S T : Lot), (∀ x ∈ nms c, S x = T x) → cnt S c = cnt T c
  | .one x n, S, T, h => by simp only [cnt]; rw [h x (by simp [nms, Cd.ss])]
  | .tie ps, S, T, h => by
    have h' : ∀ x ∈ nmss ps, S x = T x := fun x hx => h x (by simpa [nms, nmss, Cd.ss] using hx)
    simp only [cnt]
    rw [cnts_congr ps S T h', live_congr h']
theorem cnts_congr : ∀ (cs : List Cd) (S T : Lot), (∀ x ∈ nmss cs, S x = T x) → cnts S cs = cnts T cs
  | [], _, _, _ => rfl
  | c :: cs, S, T, h => by
    simp only [cnts]
    rw [cnt_congr c S T fun x hx => h x (nms_sub List.mem_cons_self x hx), cnts_congr cs S T fun x hx => h x (by
      obtain ⟨s, hs, rfl⟩ := List.mem_map.mp hx
      exact List.mem_map.mpr ⟨s, by simp only [Cd.sss]; exact List.mem_append_right _ hs, rfl⟩)]
end
mutual
theorem shs_names : ∀ (c : Cd) (p q : Int), ∀ r ∈ shs p q c, r.1 ∈ nms c
  | .one x n, p, q, r, h => by
    simp only [shs] at h
    split at h
    · rw [List.mem_singleton.mp h]; simp [nms, Cd.ss]
    · cases h
  | .tie ps, p, q, r, h => by
    simp only [shs] at h
    split at h
    · cases h
    · have := shss_names ps p _ r h
      simpa [nms, nmss, Cd.ss] using this
theorem shss_names : ∀ (cs : List Cd) (p q : Int), ∀ r ∈ shss p q cs, r.1 ∈ nmss cs
  | [], _, _, r, h => by cases h
  | c :: cs, p, q, r, h => by
    simp only [shss] at h
    rcases List.mem_append.mp h with h | h
    · exact nms_sub List.mem_cons_self _ (shs_names c p q r h)
    · obtain ⟨s, hs, e⟩ := List.mem_map.mp (shss_names cs p q r h)
      exact List.mem_map.mpr ⟨s, by simp only [Cd.sss]; exact List.mem_append_right _ hs, e⟩
end
/-- in the list of those that hold -/
def holdS (p q : Int) (c : Cd) : Lot := fun x => (shs p q c).any fun r => r.1 == x
theorem holdS_iff {p q : Int} {c : Cd} {x : Str} : holdS p q c x = true ↔ ∃ q', (x, q') ∈ shs p q c := by
  unfold holdS
  rw [List.any_eq_true]
  constructor
  · rintro ⟨r, h1, h2⟩
    rw [beq_iff_eq] at h2
    exact ⟨r.2, by rw [← h2]; exact h1⟩
  · rintro ⟨q', h⟩
    exact ⟨_, h, by simp⟩
def rowC (q : Int) (t : Ct) : Str × Int := (t.1, q * t.2.2)
theorem nodup_cons {c : Cd} {cs : List Cd} (h : (nmss (c :: cs)).Nodup) : (nms c).Nodup ∧ (nmss cs).Nodup ∧ ∀ x ∈ nms c, x ∉ nmss cs := by
  have e : nmss (c :: cs) = nms c ++ nmss cs := by simp [nmss, nms, Cd.sss]
  rw [e] at h
  obtain ⟨h1, h2, h3⟩ := List.nodup_append.mp h
  exact ⟨h1, h2, fun x hx hy => h3 x hx x hy rfl⟩
/-- where x belongs to one part, it holds in the tie as it does there -/
theorem hold_part {p q : Int} : ∀ {ps : List Cd}, (nmss ps).Nodup → ∀ c ∈ ps, ∀ x ∈ nms c, ((shss p q ps).any (fun r => r.1 == x)) = holdS p q c x
  | a :: r, hn, c, hc, x, hx => by
    obtain ⟨n1, n2, n3⟩ := nodup_cons hn
    simp only [shss, List.any_append]
    rcases List.mem_cons.mp hc with e | hc
    · subst e
      have : (shss p q r).any (fun r => r.1 == x) = false := by
        rw [List.any_eq_false]
        intro y hy hxy
        rw [beq_iff_eq] at hxy
        exact n3 x hx (hxy ▸ shss_names r p q y hy)
      rw [this, Bool.or_false]
      rfl
    · have : (shs p q a).any (fun r => r.1 == x) = false := by
        rw [List.any_eq_false]
        intro y hy hxy
        rw [beq_iff_eq] at hxy
        exact n3 x (hxy ▸ shs_names a p q y hy) (nms_sub hc x hx)
      rw [this, Bool.false_or]
      exact hold_part n2 c hc x hx
theorem any_self {l : List (Str × Int)} {ss : List Str} (hs : ∀ r ∈ l, r.1 ∈ ss) : ss.any (fun x => l.any fun r => r.1 == x) = !l.isEmpty := by
  cases l with
  | nil => induction ss with
    | nil => rfl
    | cons a s ih => simp
  | cons r l =>
    rw [show (!(r :: l).isEmpty) = true from rfl, List.any_eq_true]
    exact ⟨r.1, hs r List.mem_cons_self, by simp⟩
theorem alive_hold {p q : Int} {c : Cd} : alive (holdS p q c) c = !(shs p q c).isEmpty := by
  have h := any_self (l := shs p q c) (ss := nms c) (shs_names c p q)
  unfold alive
  unfold nms at h
  rw [List.any_map] at h
  exact h
mutual
/-- the counts of those that hold are their shares -/
theorem cnt_hold : ∀ (c : Cd) (p q : Int), c.ok → 0 < q → 0 ≤ p → (nms c).Nodup → (cnt (holdS p q c) c).map (rowC q) = shs p q c ∧ Stable p q (holdS p q c) c
  | .one x n, p, q, _, _, _, _ => by
    by_cases h : p ≤ n * q
    · have e : holdS p q (.one x n) x = true := by simp [holdS, shs, h]
      refine ⟨by simp [cnt, e, shs, h, rowC], fun t ht => ?_⟩
      simp only [cnt, e, if_true] at ht
      rw [List.mem_singleton.mp ht]
      simpa using h
    · have e : holdS p q (.one x n) x = false := by simp [holdS, shs, h]
      refine ⟨by simp [cnt, e, shs, h], fun t ht => ?_⟩
      simp [cnt, e] at ht
  | .tie ps, p, q, ok, hq, hp, nd => by
    obtain ⟨ok1, ok2⟩ := (by simpa only [Cd.ok] using ok : 2 ≤ ps.length ∧ Cd.oks ps)
    have nd' : (nmss ps).Nodup := by simpa [nms, nmss, Cd.ss] using nd
    by_cases hm : mx p q (grs ps) = 0
    · have e : shs p q (.tie ps) = [] := by simp [shs, hm]
      have a0 : alive (holdS p q (.tie ps)) (.tie ps) = false := by rw [alive_hold, e]; rfl
      have c0 : cnt (holdS p q (.tie ps)) (.tie ps) = [] := by
        cases h : cnt (holdS p q (.tie ps)) (.tie ps) with
        | nil => rfl
        | cons t r =>
          have := cnt_ne.mp (show cnt (holdS p q (.tie ps)) (.tie ps) ≠ [] by rw [h]; simp)
          rw [a0] at this; cases this
      exact ⟨by rw [c0, e]; rfl, fun t ht => by rw [c0] at ht; cases ht⟩
    · have hqm : 0 < q * (mx p q (grs ps) : Int) := Int.mul_pos hq (by omega)
      have e : shs p q (.tie ps) = shss p (q * mx p q (grs ps)) ps := by simp [shs, hm]
      have hold : ∀ c ∈ ps, ∀ x ∈ nms c, holdS p q (.tie ps) x = holdS p (q * mx p q (grs ps)) c x := fun c hc x hx => by
        rw [show holdS p q (.tie ps) x = (shss p (q * mx p q (grs ps)) ps).any (fun r => r.1 == x) by unfold holdS; rw [e]]
        exact hold_part nd' c hc x hx
      have al : ∀ c ∈ ps, alive (holdS p q (.tie ps)) c = bears p q (mx p q (grs ps)) (gr c) := fun c hc => by
        rw [alive_congr (hold c hc), alive_hold]
        have h := shss_ne ps p _ ok2 hqm hp c hc
        cases hb : bears p q (mx p q (grs ps)) (gr c) with
        | true =>
          have := h.mpr (bears_gr.mp hb)
          cases h2 : shs p (q * mx p q (grs ps)) c with
          | nil => exact absurd h2 this
          | cons _ _ => rfl
        | false =>
          cases h2 : shs p (q * mx p q (grs ps)) c with
          | nil => rfl
          | cons _ _ =>
            have := bears_gr.mpr (h.mp (by rw [h2]; simp))
            rw [hb] at this; cases this
      have lv : live (holdS p q (.tie ps)) ps = mx p q (grs ps) := by
        have h := mx_exact hq hp hm
        unfold many at h
        rw [grs_map, List.filter_map, List.length_map, ← grs_map] at h
        unfold live
        rw [List.filter_congr al]
        exact h
      obtain ⟨r1, r2⟩ := cnts_hold ps p (q * mx p q (grs ps)) ok2 hqm hp nd' (holdS p q (.tie ps)) hold
      refine ⟨?_, fun t ht => ?_⟩
      · simp only [cnt, lv]
        rw [e, ← r1, scale, List.map_map]
        refine List.map_congr_left fun t _ => ?_
        simp only [Function.comp_apply, rowC]
        rw [Int.natCast_mul, Int.mul_assoc]
      · simp only [cnt, lv] at ht
        obtain ⟨u, hu, rfl⟩ := scale_mem.mp ht
        have := r2 u hu
        simp only
        rw [Int.natCast_mul, ← Int.mul_assoc q]
        exact this
theorem cnts_hold : ∀ (cs : List Cd) (p q : Int), Cd.oks cs → 0 < q → 0 ≤ p → (nmss cs).Nodup → ∀ S : Lot, (∀ c ∈ cs, ∀ x ∈ nms c, S x = holdS p q c x) →
    (cnts S cs).map (rowC q) = shss p q cs ∧ ∀ t ∈ cnts S cs, p ≤ t.2.1 * (q * t.2.2)
  | [], _, _, _, _, _, _, _, _ => ⟨rfl, fun t h => by cases h⟩
  | a :: r, p, q, ok, hq, hp, nd, S, hS => by
    obtain ⟨h1, h2⟩ := (by simpa only [Cd.oks] using ok : a.ok ∧ Cd.oks r)
    obtain ⟨n1, n2, _⟩ := nodup_cons nd
    obtain ⟨x1, x2⟩ := cnt_hold a p q h1 hq hp n1
    obtain ⟨y1, y2⟩ := cnts_hold r p q h2 hq hp n2 S fun c hc => hS c (List.mem_cons_of_mem _ hc)
    have ea := cnt_congr a S (holdS p q a) (hS a List.mem_cons_self)
    simp only [cnts, shss, List.map_append, ea]
    refine ⟨by rw [x1, y1], fun t ht => ?_⟩
    rcases List.mem_append.mp ht with h | h
    · exact x2 t h
    · exact y2 t h
end
end Fact
set_option maxRecDepth 100000
/-! Breaking: whatever the order, the same are left. -/
namespace Fact
open PySem Pu
theorem alive_mono {S T : Lot} {c : Cd} (h : ∀ x ∈ nms c, S x = true → T x = true) (a : alive S c = true) : alive T c = true := by
  obtain ⟨s, h1, h2⟩ := List.any_eq_true.mp a
  exact List.any_eq_true.mpr ⟨s, h1, h s.1 (List.mem_map.mpr ⟨s, h1, rfl⟩) h2⟩
theorem live_mono {S T : Lot} {ps : List Cd} (h : ∀ x ∈ nmss ps, S x = true → T x = true) : live S ps ≤ live T ps := by
  unfold live
  have : ∀ l : List Cd, (∀ c ∈ l, c ∈ ps) → (l.filter (alive S)).length ≤ (l.filter (alive T)).length := fun l hl => by
    induction l with
    | nil => exact Nat.le_refl _
    | cons c l ih =>
      have ih := ih fun e he => hl e (List.mem_cons_of_mem _ he)
      cases hs : alive S c with
      | true =>
        have ht := alive_mono (fun x hx => h x (nms_sub (hl c List.mem_cons_self) x hx)) hs
        rw [List.filter_cons_of_pos hs, List.filter_cons_of_pos ht]
        simp; omega
      | false =>
        rw [List.filter_cons_of_neg (by simp [hs])]
        cases ht : alive T c with
        | true => rw [List.filter_cons_of_pos ht]; simp; omega
        | false => rw [List.filter_cons_of_neg (by simp [ht])]; exact ih
  exact this ps fun _ h => h
mutual
/-- the more are whole, the greater the counts -/
theorem cnt_mono : ∀ (c : Cd) (S T : Lot), (∀ x ∈ nms c, S x = true → T x = true) → ∀ t ∈ cnt S c, ∃ k, t.2.2 ≤ k ∧ (t.1, t.2.1, k) ∈ cnt T c
  | .one x n, S, T, h, t, ht => by
    simp only [cnt] at ht
    split at ht
    · rename_i hs
      rw [List.mem_singleton.mp ht]
      refine ⟨1, Nat.le_refl _, ?_⟩
      simp only [cnt]
      rw [if_pos (h x (by simp [nms, Cd.ss]) hs)]
      exact List.mem_singleton.mpr rfl
    · cases ht
  | .tie ps, S, T, h, t, ht => by
    have h' : ∀ x ∈ nmss ps, S x = true → T x = true := fun x hx => h x (by simpa [nms, nmss, Cd.ss] using hx)
    simp only [cnt] at ht ⊢
    obtain ⟨u, hu, rfl⟩ := scale_mem.mp ht
    obtain ⟨k, h1, h2⟩ := cnts_mono ps S T h' u hu
    exact ⟨live T ps * k, Nat.mul_le_mul (live_mono h') h1, scale_mem.mpr ⟨_, h2, rfl⟩⟩
theorem cnts_mono : ∀ (cs : List Cd) (S T : Lot), (∀ x ∈ nmss cs, S x = true → T x = true) → ∀ t ∈ cnts S cs, ∃ k, t.2.2 ≤ k ∧ (t.1, t.2.1, k) ∈ cnts T cs
  | [], _, _, _, t, h => by cases h
  | c :: cs, S, T, h, t, ht => by
    simp only [cnts] at ht ⊢
    rcases List.mem_append.mp ht with ht | ht
    · obtain ⟨k, h1, h2⟩ := cnt_mono c S T (fun x hx => h x (nms_sub List.mem_cons_self x hx)) t ht
      exact ⟨k, h1, List.mem_append_left _ h2⟩
    · obtain ⟨k, h1, h2⟩ := cnts_mono cs S T (fun x hx => h x (by
        obtain ⟨s, hs, rfl⟩ := List.mem_map.mp hx
        exact List.mem_map.mpr ⟨s, by simp only [Cd.sss]; exact List.mem_append_right _ hs, rfl⟩)) t ht
      exact ⟨k, h1, List.mem_append_right _ h2⟩
end
theorem nodup_uniq {α β : Type} {f : α → β} : ∀ {l : List α}, (l.map f).Nodup → ∀ {a b : α}, a ∈ l → b ∈ l → f a = f b → a = b
  | [], _, a, _, h, _, _ => by cases h
  | x :: l, hn, a, b, ha, hb, e => by
    rw [List.map_cons, List.nodup_cons] at hn
    rcases List.mem_cons.mp ha with e1 | ha2
    · rcases List.mem_cons.mp hb with e2 | hb2
      · rw [e1, e2]
      · exact absurd (List.mem_map.mpr ⟨b, hb2, by rw [← e, e1]⟩) hn.1
    · rcases List.mem_cons.mp hb with e2 | hb2
      · exact absurd (List.mem_map.mpr ⟨a, ha2, by rw [e, e2]⟩) hn.1
      · exact nodup_uniq hn.2 ha2 hb2 e
theorem cnt_nodup {S : Lot} {c : Cd} (h : (nms c).Nodup) : ((cnt S c).map (·.1)).Nodup := by
  have e : (cnt S c).map (·.1) = ((cnt S c).map fun t => (t.1, t.2.1)).map (·.1) := by rw [List.map_map]; rfl
  rw [e, cnt_names]
  exact h.sublist (List.filter_sublist.map _)
/-- those that bear too much -/
def overC (p q : Int) (S : Lot) (c : Cd) : List Ct := (cnt S c).filter fun t => decide (t.2.1 * (q * t.2.2) < p)
theorem over_nil {p q : Int} {S : Lot} {c : Cd} : overC p q S c = [] ↔ Stable p q S c := by
  unfold overC Stable
  rw [List.filter_eq_nil_iff]
  refine ⟨fun h t ht => ?_, fun h t ht => ?_⟩
  · have := h t ht; simp at this; omega
  · have := h t ht; simp; omega
/-- one that bears too much is none of those that hold -/
theorem over_out {p q : Int} {S : Lot} {c : Cd} (ok : c.ok) (hq : 0 < q) (hp : 0 ≤ p) (nd : (nms c).Nodup) (hS : ∀ x ∈ nms c, holdS p q c x = true → S x = true) {t : Ct} (ht : t ∈ overC p q S c) : holdS p q c t.1 = false := by
  obtain ⟨h1, h2⟩ := List.mem_filter.mp ht
  have h2 := of_decide_eq_true h2
  cases hh : holdS p q c t.1 with
  | false => rfl
  | true =>
    obtain ⟨k0, hk0⟩ := cnt_has (S := holdS p q c) (cnt_in h1).1 hh
    obtain ⟨_, st⟩ := cnt_hold c p q ok hq hp nd
    have h3 := st _ hk0
    obtain ⟨k, k1, k2⟩ := cnt_mono c _ S hS _ hk0
    have e := nodup_uniq (cnt_nodup (S := S) nd) k2 h1 rfl
    have ek : t.2.2 = k := by rw [← e]
    have kp := cnt_pos _ c _ hk0
    have n0 : 0 ≤ t.2.1 := by
      rcases Int.lt_or_le t.2.1 0 with hn | hn
      · have : t.2.1 * (q * (k0 : Int)) < 0 := Int.mul_neg_of_neg_of_pos hn (Int.mul_pos hq (by simp only at kp; omega))
        simp only at h3
        omega
      · exact hn
    have h4 : t.2.1 * (q * (k0 : Int)) ≤ t.2.1 * (q * (t.2.2 : Int)) := Int.mul_le_mul_of_nonneg_left (Int.mul_le_mul_of_nonneg_left (by rw [ek]; simp only at k1; omega) (Int.le_of_lt hq)) n0
    simp only at h3
    omega
/-- when nothing breaks any more, those that hold are left -/
theorem left_is {p q : Int} {S : Lot} {c : Cd} (ok : c.ok) (hq : 0 < q) (hp : 0 ≤ p) (hS : ∀ x ∈ nms c, holdS p q c x = true → S x = true) (h0 : overC p q S c = []) : ∀ x ∈ nms c, S x = holdS p q c x := fun x hx => by
  cases hs : S x with
  | false =>
    cases hh : holdS p q c x with
    | false => rfl
    | true => have := hS x hx hh; rw [hs] at this; cases this
  | true =>
    obtain ⟨s, h1, rfl⟩ := List.mem_map.mp hx
    obtain ⟨k, hk⟩ := cnt_has h1 hs
    obtain ⟨q', hq'⟩ := stable_in c p q S ok hq hp (over_nil.mp h0) _ hk
    exact (holdS_iff.mpr ⟨q', hq'⟩).symm
/-- load by load: only the ratio counts -/
theorem ratio_le {p q p' q' x : Int} (hq : 0 < q) (hq' : 0 < q') (h : p * q' = p' * q) : p ≤ x * q ↔ p' ≤ x * q' := by
  constructor
  · intro g
    have h1 := Int.mul_le_mul_of_nonneg_right g (Int.le_of_lt hq')
    rw [h, Int.mul_assoc, Int.mul_comm q q', ← Int.mul_assoc] at h1
    exact Int.le_of_mul_le_mul_right h1 hq
  · intro g
    have h1 := Int.mul_le_mul_of_nonneg_right g (Int.le_of_lt hq)
    rw [← h, Int.mul_assoc, Int.mul_comm q' q, ← Int.mul_assoc] at h1
    exact Int.le_of_mul_le_mul_right h1 hq'
end Fact
set_option maxRecDepth 100000
/-! Lowest terms; dicts by names. -/
namespace Fact
open PySem Pu
def ldD (p q : Int) : D := .tuple [.int p, .int q]
/-- p / q in lowest terms -/
def lowD (p q : Int) : D := ldD (p / Int.gcd p q) (q / Int.gcd p q)
theorem gcd_step {a b : Int} (ha : 0 ≤ a) (hb : 0 < b) : Int.gcd b (a % b) = Int.gcd a b := by
  obtain ⟨m, rfl⟩ := Int.eq_ofNat_of_zero_le ha
  obtain ⟨n, rfl⟩ := Int.eq_ofNat_of_zero_le (Int.le_of_lt hb)
  have e : ((m : Int) % (n : Int)) = ((m % n : Nat) : Int) := by omega
  rw [e]
  show Nat.gcd n (m % n) = Nat.gcd m n
  rw [Nat.gcd_comm n (m % n), ← Nat.gcd_rec, Nat.gcd_comm]
/-- the loop of two numbers -/
theorem gcd_loop {t : FB} {body : G} {mk : Int → Int → Rho} (ht : ∀ a b, t (mk a b) = some (decide (0 < b))) (hb : ∀ a b, 0 < b → body (mk a b) = some (.nx (mk b (a % b)))) :
    ∀ (n N : Nat) (a b : Int), 0 ≤ a → 0 ≤ b → b.toNat = n → n < N → whileN t body N (mk a b) = some (.nx (mk (Int.gcd a b) 0)) := by
  intro n
  induction n using Nat.strongRecOn with
  | _ n ih =>
    intro N a b h1 h2 e hN
    obtain ⟨M, rfl⟩ : ∃ M, N = M + 1 := ⟨N - 1, by omega⟩
    by_cases h : 0 < b
    · have hm0 := Int.emod_nonneg a (b := b) (by omega)
      have hm1 := Int.emod_lt_of_pos a h
      have := ih (a % b).toNat (by omega) M b (a % b) (by omega) hm0 rfl (by omega)
      simp only [whileN, ht, h, decide_true, Option.bind_some, if_true, hb a b h, this, gcd_step h1 h]
    · have hb0 : b = 0 := by omega
      subst hb0
      simp only [whileN, ht, Option.bind_some]
      have : (Int.gcd a 0 : Int) = a := by rw [Int.gcd_zero_right]; omega
      rw [this]
      simp
theorem gcd_pos {p q : Int} (hq : 0 < q) : 0 < (Int.gcd p q : Int) ∧ (Int.gcd p q : Int) ≤ q := by
  have h := Int.gcd_pos_of_ne_zero_right p (show q ≠ 0 by omega)
  have h2 : (Int.gcd p q : Int) ∣ q := Int.gcd_dvd_right p q
  exact ⟨by omega, Int.le_of_dvd hq h2⟩
theorem lowest_ok {p q : Int} (hp : 0 ≤ p) (hq : 0 < q) (hl : q < 1000000000000) : Mi.m_law_lowest [.int p, .int q] = some (lowD p q) := by
  obtain ⟨g1, g2⟩ := gcd_pos (p := p) hq
  have d1 : divD (.int p) (.int (Int.gcd p q)) = some (.int (p / Int.gcd p q)) := div_ok g1 (by omega)
  have d2 : divD (.int q) (.int (Int.gcd p q)) = some (.int (q / Int.gcd p q)) := div_ok g1 (by omega)
  have L := gcd_loop (t := tOf (f2 gtD (bVar 3) (fK (.int 0)))) (body := Mi.B_law_lowest_1) (mk := fun a b => [.val (.int p), .val (.int q), .val (.int a), .val (.int b)])
    (fun a b => by simp only [e_run, e_seq, seq_nx, seq_rt, seq_none, e_skip, e_set, e_own, nxK_some, vK_some, oK_some, e_ret, rtK_some, e_if, ifK_some, e_fVar, e_bVar, va_val, vb_val, vb_own, vb_bor, at_0, at_S, set_0, set_S, e_K, e_f1, o1_some, e_f2, o2_some, e_and, and_t, and_f, and_b, e_or, or_b, e_tOf, to_b, e_tAnd, tand_b, e_tOr, tor_b, e_tNot, not_b, e_tYes, e_fIf, fif_b, e_nil, e_cons, cons_some, e_tup, tup_some, e_lst, lst_some, e_call, call_some, e_m1, e_m2, e_sSeq, seqs_l, seqs_t, seqs_s, e_for, for_some, e_asg, tg_some, e_gN, e_gT2, e_gT3, e_frz, frz_own, e_retOwn, ch_b, e_lc, co_some, lc_some, wipe_nil, wipe_cons, end_rt, end_nx, pt_none, pt_some, int_some, e_cut, cut_l, cut_t, e_app, e_sRng, pad_0, sl_f, sl_t, sl_nil, add_i, sub_i, lt_i, le_i, gt_i, ge_i, neg_i, not_d, len_l, len_t, ix_l, ix_t, max2_i, min2_i, tup_l, tup_t, lst_l, lst_t, rev_l, rev_t, bool_i, bool_b, int_b, isn_n, e_chain, e_par, e_m3, List.length_cons, List.length_nil, List.replicate, List.cons_append, List.nil_append, Option.map_some, Nat.reduceAdd, Nat.reduceSub, Nat.zero_add, if_true, if_false, ite_true, ite_false, Bool.false_eq_true, reduceCtorEq, decide_true, decide_false, not_true, not_false_iff, Bool.not_true, Bool.not_false, Bool.and_true, Bool.true_and, Bool.and_false, Bool.false_and, Bool.or_true, Bool.true_or, Bool.or_false, Bool.false_or]) (fun a b h => by
      have : modD (.int a) (.int b) = some (.int (a % b)) := mod_ok h
      simp only [e_run, e_seq, seq_nx, seq_rt, seq_none, e_skip, e_set, e_own, nxK_some, vK_some, oK_some, e_ret, rtK_some, e_if, ifK_some, e_fVar, e_bVar, va_val, vb_val, vb_own, vb_bor, at_0, at_S, set_0, set_S, e_K, e_f1, o1_some, e_f2, o2_some, e_and, and_t, and_f, and_b, e_or, or_b, e_tOf, to_b, e_tAnd, tand_b, e_tOr, tor_b, e_tNot, not_b, e_tYes, e_fIf, fif_b, e_nil, e_cons, cons_some, e_tup, tup_some, e_lst, lst_some, e_call, call_some, e_m1, e_m2, e_sSeq, seqs_l, seqs_t, seqs_s, e_for, for_some, e_asg, tg_some, e_gN, e_gT2, e_gT3, e_frz, frz_own, e_retOwn, ch_b, e_lc, co_some, lc_some, wipe_nil, wipe_cons, end_rt, end_nx, pt_none, pt_some, int_some, e_cut, cut_l, cut_t, e_app, e_sRng, pad_0, sl_f, sl_t, sl_nil, add_i, sub_i, lt_i, le_i, gt_i, ge_i, neg_i, not_d, len_l, len_t, ix_l, ix_t, max2_i, min2_i, tup_l, tup_t, lst_l, lst_t, rev_l, rev_t, bool_i, bool_b, int_b, isn_n, e_chain, e_par, e_m3, List.length_cons, List.length_nil, List.replicate, List.cons_append, List.nil_append, Option.map_some, Nat.reduceAdd, Nat.reduceSub, Nat.zero_add, if_true, if_false, ite_true, ite_false, Bool.false_eq_true, reduceCtorEq, decide_true, decide_false, not_true, not_false_iff, Bool.not_true, Bool.not_false, Bool.and_true, Bool.true_and, Bool.and_false, Bool.false_and, Bool.or_true, Bool.true_or, Bool.or_false, Bool.false_or, Mi.B_law_lowest_1, e_par, this]) q.toNat 1000000000000000000000000 p q hp (by omega) rfl (by omega)
  simp only [e_run, e_seq, seq_nx, seq_rt, seq_none, e_skip, e_set, e_own, nxK_some, vK_some, oK_some, e_ret, rtK_some, e_if, ifK_some, e_fVar, e_bVar, va_val, vb_val, vb_own, vb_bor, at_0, at_S, set_0, set_S, e_K, e_f1, o1_some, e_f2, o2_some, e_and, and_t, and_f, and_b, e_or, or_b, e_tOf, to_b, e_tAnd, tand_b, e_tOr, tor_b, e_tNot, not_b, e_tYes, e_fIf, fif_b, e_nil, e_cons, cons_some, e_tup, tup_some, e_lst, lst_some, e_call, call_some, e_m1, e_m2, e_sSeq, seqs_l, seqs_t, seqs_s, e_for, for_some, e_asg, tg_some, e_gN, e_gT2, e_gT3, e_frz, frz_own, e_retOwn, ch_b, e_lc, co_some, lc_some, wipe_nil, wipe_cons, end_rt, end_nx, pt_none, pt_some, int_some, e_cut, cut_l, cut_t, e_app, e_sRng, pad_0, sl_f, sl_t, sl_nil, add_i, sub_i, lt_i, le_i, gt_i, ge_i, neg_i, not_d, len_l, len_t, ix_l, ix_t, max2_i, min2_i, tup_l, tup_t, lst_l, lst_t, rev_l, rev_t, bool_i, bool_b, int_b, isn_n, e_chain, e_par, e_m3, List.length_cons, List.length_nil, List.replicate, List.cons_append, List.nil_append, Option.map_some, Nat.reduceAdd, Nat.reduceSub, Nat.zero_add, if_true, if_false, ite_true, ite_false, Bool.false_eq_true, reduceCtorEq, decide_true, decide_false, not_true, not_false_iff, Bool.not_true, Bool.not_false, Bool.and_true, Bool.true_and, Bool.and_false, Bool.false_and, Bool.or_true, Bool.true_or, Bool.or_false, Bool.false_or, Mi.m_law_lowest, Mi.G_law_lowest, e_par, gWhile]
  rw [L]
  simp only [e_run, e_seq, seq_nx, seq_rt, seq_none, e_skip, e_set, e_own, nxK_some, vK_some, oK_some, e_ret, rtK_some, e_if, ifK_some, e_fVar, e_bVar, va_val, vb_val, vb_own, vb_bor, at_0, at_S, set_0, set_S, e_K, e_f1, o1_some, e_f2, o2_some, e_and, and_t, and_f, and_b, e_or, or_b, e_tOf, to_b, e_tAnd, tand_b, e_tOr, tor_b, e_tNot, not_b, e_tYes, e_fIf, fif_b, e_nil, e_cons, cons_some, e_tup, tup_some, e_lst, lst_some, e_call, call_some, e_m1, e_m2, e_sSeq, seqs_l, seqs_t, seqs_s, e_for, for_some, e_asg, tg_some, e_gN, e_gT2, e_gT3, e_frz, frz_own, e_retOwn, ch_b, e_lc, co_some, lc_some, wipe_nil, wipe_cons, end_rt, end_nx, pt_none, pt_some, int_some, e_cut, cut_l, cut_t, e_app, e_sRng, pad_0, sl_f, sl_t, sl_nil, add_i, sub_i, lt_i, le_i, gt_i, ge_i, neg_i, not_d, len_l, len_t, ix_l, ix_t, max2_i, min2_i, tup_l, tup_t, lst_l, lst_t, rev_l, rev_t, bool_i, bool_b, int_b, isn_n, e_chain, e_par, e_m3, List.length_cons, List.length_nil, List.replicate, List.cons_append, List.nil_append, Option.map_some, Nat.reduceAdd, Nat.reduceSub, Nat.zero_add, if_true, if_false, ite_true, ite_false, Bool.false_eq_true, reduceCtorEq, decide_true, decide_false, not_true, not_false_iff, Bool.not_true, Bool.not_false, Bool.and_true, Bool.true_and, Bool.and_false, Bool.false_and, Bool.or_true, Bool.true_or, Bool.or_false, Bool.false_or, d1, d2]
  rfl
theorem parted_ok {p q : Int} {m : Nat} (hp : 0 ≤ p) (hq : 0 < q) (hl : q * m < 1000000000000) (hm : 0 < m) (hm2 : m < 1000000) : Mi.m_parted_by [ldD p q, .int m] = some (lowD p (q * m)) := by
  have hqm : 0 < q * (m : Int) := Int.mul_pos hq (by omega)
  obtain ⟨g1, g2⟩ := gcd_pos (p := p) hqm
  have d1 : divD (.int p) (.int (Int.gcd p (q * m))) = some (.int (p / Int.gcd p (q * m))) := div_ok g1 (by omega)
  have d2 : divD (.int (q * m)) (.int (Int.gcd p (q * m))) = some (.int (q * m / Int.gcd p (q * m))) := div_ok g1 (by omega)
  have d3 : mulD (.int q) (.int m) = some (.int (q * m)) := mul_ok (Or.inr (by omega))
  have a0 : L2.atI [PyData.int p, .int q] 0 = some (.int p) := rfl
  have a1 : L2.atI [PyData.int p, .int q] 1 = some (.int q) := rfl
  have L := gcd_loop (t := tOf (f2 gtD (bVar 3) (fK (.int 0)))) (body := Mi.B_parted_by_1) (mk := fun a b => [.val (ldD p q), .val (.int m), .val (.int a), .val (.int b), .val (.int p), .val (.int (q * m))])
    (fun a b => by simp only [e_run, e_seq, seq_nx, seq_rt, seq_none, e_skip, e_set, e_own, nxK_some, vK_some, oK_some, e_ret, rtK_some, e_if, ifK_some, e_fVar, e_bVar, va_val, vb_val, vb_own, vb_bor, at_0, at_S, set_0, set_S, e_K, e_f1, o1_some, e_f2, o2_some, e_and, and_t, and_f, and_b, e_or, or_b, e_tOf, to_b, e_tAnd, tand_b, e_tOr, tor_b, e_tNot, not_b, e_tYes, e_fIf, fif_b, e_nil, e_cons, cons_some, e_tup, tup_some, e_lst, lst_some, e_call, call_some, e_m1, e_m2, e_sSeq, seqs_l, seqs_t, seqs_s, e_for, for_some, e_asg, tg_some, e_gN, e_gT2, e_gT3, e_frz, frz_own, e_retOwn, ch_b, e_lc, co_some, lc_some, wipe_nil, wipe_cons, end_rt, end_nx, pt_none, pt_some, int_some, e_cut, cut_l, cut_t, e_app, e_sRng, pad_0, sl_f, sl_t, sl_nil, add_i, sub_i, lt_i, le_i, gt_i, ge_i, neg_i, not_d, len_l, len_t, ix_l, ix_t, max2_i, min2_i, tup_l, tup_t, lst_l, lst_t, rev_l, rev_t, bool_i, bool_b, int_b, isn_n, e_chain, e_par, e_m3, List.length_cons, List.length_nil, List.replicate, List.cons_append, List.nil_append, Option.map_some, Nat.reduceAdd, Nat.reduceSub, Nat.zero_add, if_true, if_false, ite_true, ite_false, Bool.false_eq_true, reduceCtorEq, decide_true, decide_false, not_true, not_false_iff, Bool.not_true, Bool.not_false, Bool.and_true, Bool.true_and, Bool.and_false, Bool.false_and, Bool.or_true, Bool.true_or, Bool.or_false, Bool.false_or]) (fun a b h => by
      have : modD (.int a) (.int b) = some (.int (a % b)) := mod_ok h
      simp only [e_run, e_seq, seq_nx, seq_rt, seq_none, e_skip, e_set, e_own, nxK_some, vK_some, oK_some, e_ret, rtK_some, e_if, ifK_some, e_fVar, e_bVar, va_val, vb_val, vb_own, vb_bor, at_0, at_S, set_0, set_S, e_K, e_f1, o1_some, e_f2, o2_some, e_and, and_t, and_f, and_b, e_or, or_b, e_tOf, to_b, e_tAnd, tand_b, e_tOr, tor_b, e_tNot, not_b, e_tYes, e_fIf, fif_b, e_nil, e_cons, cons_some, e_tup, tup_some, e_lst, lst_some, e_call, call_some, e_m1, e_m2, e_sSeq, seqs_l, seqs_t, seqs_s, e_for, for_some, e_asg, tg_some, e_gN, e_gT2, e_gT3, e_frz, frz_own, e_retOwn, ch_b, e_lc, co_some, lc_some, wipe_nil, wipe_cons, end_rt, end_nx, pt_none, pt_some, int_some, e_cut, cut_l, cut_t, e_app, e_sRng, pad_0, sl_f, sl_t, sl_nil, add_i, sub_i, lt_i, le_i, gt_i, ge_i, neg_i, not_d, len_l, len_t, ix_l, ix_t, max2_i, min2_i, tup_l, tup_t, lst_l, lst_t, rev_l, rev_t, bool_i, bool_b, int_b, isn_n, e_chain, e_par, e_m3, List.length_cons, List.length_nil, List.replicate, List.cons_append, List.nil_append, Option.map_some, Nat.reduceAdd, Nat.reduceSub, Nat.zero_add, if_true, if_false, ite_true, ite_false, Bool.false_eq_true, reduceCtorEq, decide_true, decide_false, not_true, not_false_iff, Bool.not_true, Bool.not_false, Bool.and_true, Bool.true_and, Bool.and_false, Bool.false_and, Bool.or_true, Bool.true_or, Bool.or_false, Bool.false_or, Mi.B_parted_by_1, e_par, this]) (q * m).toNat 1000000000000000000000000 p (q * m) hp (by omega) rfl (by omega)
  simp only [ldD] at L ⊢
  simp only [e_run, e_seq, seq_nx, seq_rt, seq_none, e_skip, e_set, e_own, nxK_some, vK_some, oK_some, e_ret, rtK_some, e_if, ifK_some, e_fVar, e_bVar, va_val, vb_val, vb_own, vb_bor, at_0, at_S, set_0, set_S, e_K, e_f1, o1_some, e_f2, o2_some, e_and, and_t, and_f, and_b, e_or, or_b, e_tOf, to_b, e_tAnd, tand_b, e_tOr, tor_b, e_tNot, not_b, e_tYes, e_fIf, fif_b, e_nil, e_cons, cons_some, e_tup, tup_some, e_lst, lst_some, e_call, call_some, e_m1, e_m2, e_sSeq, seqs_l, seqs_t, seqs_s, e_for, for_some, e_asg, tg_some, e_gN, e_gT2, e_gT3, e_frz, frz_own, e_retOwn, ch_b, e_lc, co_some, lc_some, wipe_nil, wipe_cons, end_rt, end_nx, pt_none, pt_some, int_some, e_cut, cut_l, cut_t, e_app, e_sRng, pad_0, sl_f, sl_t, sl_nil, add_i, sub_i, lt_i, le_i, gt_i, ge_i, neg_i, not_d, len_l, len_t, ix_l, ix_t, max2_i, min2_i, tup_l, tup_t, lst_l, lst_t, rev_l, rev_t, bool_i, bool_b, int_b, isn_n, e_chain, e_par, e_m3, List.length_cons, List.length_nil, List.replicate, List.cons_append, List.nil_append, Option.map_some, Nat.reduceAdd, Nat.reduceSub, Nat.zero_add, if_true, if_false, ite_true, ite_false, Bool.false_eq_true, reduceCtorEq, decide_true, decide_false, not_true, not_false_iff, Bool.not_true, Bool.not_false, Bool.and_true, Bool.true_and, Bool.and_false, Bool.false_and, Bool.or_true, Bool.true_or, Bool.or_false, Bool.false_or, Mi.m_parted_by, Mi.G_parted_by, e_par, gWhile, a0, a1, d3]
  rw [L]
  simp only [e_run, e_seq, seq_nx, seq_rt, seq_none, e_skip, e_set, e_own, nxK_some, vK_some, oK_some, e_ret, rtK_some, e_if, ifK_some, e_fVar, e_bVar, va_val, vb_val, vb_own, vb_bor, at_0, at_S, set_0, set_S, e_K, e_f1, o1_some, e_f2, o2_some, e_and, and_t, and_f, and_b, e_or, or_b, e_tOf, to_b, e_tAnd, tand_b, e_tOr, tor_b, e_tNot, not_b, e_tYes, e_fIf, fif_b, e_nil, e_cons, cons_some, e_tup, tup_some, e_lst, lst_some, e_call, call_some, e_m1, e_m2, e_sSeq, seqs_l, seqs_t, seqs_s, e_for, for_some, e_asg, tg_some, e_gN, e_gT2, e_gT3, e_frz, frz_own, e_retOwn, ch_b, e_lc, co_some, lc_some, wipe_nil, wipe_cons, end_rt, end_nx, pt_none, pt_some, int_some, e_cut, cut_l, cut_t, e_app, e_sRng, pad_0, sl_f, sl_t, sl_nil, add_i, sub_i, lt_i, le_i, gt_i, ge_i, neg_i, not_d, len_l, len_t, ix_l, ix_t, max2_i, min2_i, tup_l, tup_t, lst_l, lst_t, rev_l, rev_t, bool_i, bool_b, int_b, isn_n, e_chain, e_par, e_m3, List.length_cons, List.length_nil, List.replicate, List.cons_append, List.nil_append, Option.map_some, Nat.reduceAdd, Nat.reduceSub, Nat.zero_add, if_true, if_false, ite_true, ite_false, Bool.false_eq_true, reduceCtorEq, decide_true, decide_false, not_true, not_false_iff, Bool.not_true, Bool.not_false, Bool.and_true, Bool.true_and, Bool.and_false, Bool.false_and, Bool.or_true, Bool.true_or, Bool.or_false, Bool.false_or, d1, d2]
  rfl
end Fact
set_option maxRecDepth 100000
/-! Dicts by names. -/
namespace Fact
open PySem Pu
abbrev Rows := List (Str × D)
def kv (l : Rows) : List (D × D) := l.map fun e => (.str e.1, e.2)
def dS (l : Rows) : D := .dict (kv l)
theorem kv_notT (l : Rows) : notT (kv l) = true := by cases l <;> rfl
theorem eqv_ss (x y : Str) : PyData.eqv (.str x) (.str y) = (x == y) := by simp [PyData.eqv]
theorem kv_has (l : Rows) (x : Str) : hasK (kv l) (.str x) = l.any fun e => e.1 == x := by
  unfold hasK kv
  rw [List.any_map]
  congr 1
theorem kv_get {l : Rows} {x : Str} {v : D} (nd : (l.map (·.1)).Nodup) (h : (x, v) ∈ l) : getK (kv l) (.str x) = some v := by
  unfold getK kv
  induction l with
  | nil => cases h
  | cons a r ih =>
    simp only [List.map_cons, List.find?_cons, eqv_ss]
    rw [List.map_cons, List.nodup_cons] at nd
    by_cases e : a.1 = x
    · have : (a.1 == x) = true := by simpa using e
      rw [this]
      rcases List.mem_cons.mp h with h | h
      · subst h; rfl
      · exact absurd (List.mem_map.mpr ⟨_, h, by simpa using e.symm⟩) nd.1
    · have : (a.1 == x) = false := by simpa using e
      rw [this]
      rcases List.mem_cons.mp h with h | h
      · subst h; exact absurd rfl e
      · exact ih nd.2 h
theorem kv_put_new {l : Rows} {x : Str} {v : D} (h : ∀ e ∈ l, e.1 ≠ x) : putK (kv l) (.str x) v = kv (l ++ [(x, v)]) := by
  unfold putK
  rw [kv_has, if_neg (by
    rw [Bool.not_eq_true, List.any_eq_false]
    intro e he
    simpa using h e he)]
  simp [kv]
theorem kv_merge {l m : Rows} (nd : ((l ++ m).map (·.1)).Nodup) : mergeK (kv l) (kv m) = kv (l ++ m) := by
  induction m generalizing l with
  | nil => simp [mergeK, kv]
  | cons a m ih =>
    have step : mergeK (kv l) (kv (a :: m)) = mergeK (putK (kv l) (.str a.1) a.2) (kv m) := rfl
    rw [step, kv_put_new fun e he hx => ?_, ih (l := l ++ [(a.1, a.2)]) (by simpa using nd)]
    · simp
    · rw [List.map_append, List.nodup_append] at nd
      exact nd.2.2 e.1 (List.mem_map.mpr ⟨e, he, rfl⟩) a.1 (by simp) hx
theorem kv_keys (l : Rows) : (kv l).map (·.1) = (l.map (·.1)).map .str := by simp [kv]
theorem kv_len (l : Rows) : (kv l).length = l.length := by simp [kv]
/-! gUpd, gPut as steps -/
theorem upd_ok {i : Nat} {f : F1} {ρ : Rho} {l m : Rows} (hi : atR ρ i = .own (dS l)) (hf : f ρ = some (dS m)) (nd : ((l ++ m).map (·.1)).Nodup) (hl : (l ++ m).length < sizeLine) : gUpd i f ρ = some (.nx (ρ.set i (.own (dS (l ++ m))))) := by
  unfold gUpd
  rw [hf, Option.bind_some, hi]
  show (if (notT (kv l) && notT (kv m) && decide ((kv l).length + (kv m).length < sizeLine)) = true then _ else _) = _
  rw [kv_notT, kv_notT, kv_len, kv_len, if_pos (by rw [List.length_append] at hl; simpa using hl), kv_merge nd]
  rfl
theorem putS_ok {i : Nat} {k v : F1} {ρ : Rho} {l : Rows} {x : Str} {d : D} (hi : atR ρ i = .own (dS l)) (hk : k ρ = some (.str x)) (hv : v ρ = some d) (h : ∀ e ∈ l, e.1 ≠ x) (hl : l.length < sizeLine) : gPut i k v ρ = some (.nx (ρ.set i (.own (dS (l ++ [(x, d)]))))) := by
  unfold gPut
  rw [hv, Option.bind_some, hk, Option.bind_some, hi]
  show (if (keyOk (.str x) && notT (kv l) && decide ((kv l).length < sizeLine)) = true then _ else _) = _
  rw [kv_notT, kv_len, if_pos (by simpa [keyOk] using hl), kv_put_new h]
  rfl
theorem ixS_ok {l : Rows} {x : Str} {v : D} (nd : (l.map (·.1)).Nodup) (h : (x, v) ∈ l) : ixD (dS l) (.str x) = some v := by
  show (if (keyOk (.str x) && notT (kv l)) = true then _ else _) = _
  rw [kv_notT, if_pos (show (keyOk (.str x) && true) = true from rfl), kv_get nd h]
theorem inS_ok (l : Rows) (x : Str) : inD (.str x) (dS l) = some (.bool (l.any fun e => e.1 == x)) := by
  have : inB (.str x) (dS l) = some (l.any fun e => e.1 == x) := by
    show (if (keyOk (.str x) && notT (kv l)) = true then some (hasK (kv l) (.str x)) else _) = _
    rw [kv_notT, if_pos (show (keyOk (.str x) && true) = true from rfl), kv_has]
  unfold inD
  rw [this]
  rfl
theorem neE_ok (l : Rows) : neD (dS l) (.dict []) = some (.bool (!l.isEmpty)) := by
  have : eqB (dS l) (.dict []) = some l.isEmpty := by
    show (if (notT (kv l) && notT [] && ((kv l).isEmpty || List.isEmpty [])) = true then some ((kv l).isEmpty && List.isEmpty []) else _) = _
    rw [kv_notT]
    cases l <;> rfl
  unfold neD
  rw [this]
  rfl
/-! texts in lists -/
def stL (xs : List Str) : List D := xs.map .str
theorem inL_ok (x : Str) (xs : List Str) : inL (.str x) (stL xs) = xs.contains x := by
  unfold inL stL
  induction xs with
  | nil => rfl
  | cons a r ih =>
    simp only [List.map_cons, List.any_cons, eqv_ss, ih, List.contains_cons]
    congr 1
    exact Bool.beq_comm
theorem strs_flat (xs : List Str) : (stL xs).all flatD = true := by simp [stL, flatD]
theorem inBl_ok (x : Str) (xs : List Str) : inB (.str x) (.list (stL xs)) = some (xs.contains x) := by
  unfold inB
  simp only [strs_flat, flatD, Bool.true_and, Bool.true_or, if_true, inL_ok]
theorem inBt_ok (x : Str) (xs : List Str) : inB (.str x) (.tuple (stL xs)) = some (xs.contains x) := by
  unfold inB
  simp only [strs_flat, flatD, Bool.true_and, if_true, inL_ok]
theorem in_l (x : Str) (xs : List Str) : inD (.str x) (.list (stL xs)) = some (.bool (xs.contains x)) := by unfold inD; rw [inBl_ok]; rfl
theorem in_t (x : Str) (xs : List Str) : inD (.str x) (.tuple (stL xs)) = some (.bool (xs.contains x)) := by unfold inD; rw [inBt_ok]; rfl
theorem notin_l (x : Str) (xs : List Str) : notInD (.str x) (.list (stL xs)) = some (.bool (!xs.contains x)) := by unfold notInD; rw [inBl_ok]; rfl
theorem notin_t (x : Str) (xs : List Str) : notInD (.str x) (.tuple (stL xs)) = some (.bool (!xs.contains x)) := by unfold notInD; rw [inBt_ok]; rfl
end Fact
set_option maxRecDepth 100000
/-! Cords seen by the program: strands, names, strengths. -/
namespace Fact
open PySem Pu
/-! ### cords of few strands -/
structure Fit (c : Cd) : Prop where
  ok : c.ok
  nd : (nms c).Nodup
  len : c.ss.length ≤ 8
theorem Good.fit {c : Cd} (ok : c.ok) (h : Good 8 c.ss) : Fit c := ⟨ok, h.nd, h.len⟩
theorem tie_ok {ps : List Cd} (h : (Cd.tie ps).ok) : 2 ≤ ps.length ∧ Cd.oks ps := by simpa only [Cd.ok] using h
theorem part_fit {ps : List Cd} (h : Fit (.tie ps)) {c : Cd} (hc : c ∈ ps) : Fit c := by
  obtain ⟨hh, h2⟩ := tie_ok h.ok
  refine ⟨Cd.oks_iff.mp h2 c hc, ?_, Nat.le_trans (Cd.ss_mem hc) h.len⟩
  have nd : (nmss ps).Nodup := by simpa [nms, nmss, Cd.ss] using h.nd
  clear h h2 hh
  induction ps with
  | nil => cases hc
  | cons a r ih =>
    obtain ⟨n1, n2, _⟩ := nodup_cons nd
    rcases List.mem_cons.mp hc with e | hc
    · rw [e]; exact n1
    · exact ih hc n2
theorem fit_len {ps : List Cd} (h : Fit (.tie ps)) : ps.length ≤ 8 := by
  have := (Cd.oks_dp ps (tie_ok h.ok).2).1
  have := h.len
  simp only [Cd.ss] at this
  omega
theorem fit_dp {c : Cd} (h : Fit c) : c.dp ≤ 7 := by have := Cd.ok_dp c h.ok; have := h.len; omega
theorem dp_part {ps : List Cd} {c : Cd} (hc : c ∈ ps) {n : Nat} (h : (Cd.tie ps).dp < n + 1) : c.dp < n := by
  have := Cd.le_dps hc
  simp only [Cd.dp] at h
  omega
/-! ### looks -/
theorem at_one0 {x : Str} {n : Int} : L2.atI [PyData.str x, .int n] 0 = some (.str x) := rfl
theorem at_one1 {x : Str} {n : Int} : L2.atI [PyData.str x, .int n] 1 = some (.int n) := rfl
theorem at_two0 {x n : D} : L2.atI [x, n] 0 = some x := rfl
theorem at_two1 {x n : D} : L2.atI [x, n] 1 = some n := rfl
theorem inst_s {x : Str} : isInst .str (.str x) = some (.bool true) := rfl
theorem inst_t {l : List D} : isInst .str (.tuple l) = some (.bool false) := rfl
theorem ix_0 {ds : List D} {i : Int} : ixD (.list ds) (.int i) = L2.atI ds i := rfl
theorem d_tuple (c : Cd) : ∃ l, c.d = .tuple l := by cases c <;> exact ⟨_, rfl⟩
theorem tie_at {ps : List Cd} (h : 2 ≤ ps.length) : ∃ l, L2.atI (Cd.ds ps) 0 = some (.tuple l) := by
  match ps, h with
  | a :: r, _ =>
    obtain ⟨l, hl⟩ := d_tuple a
    refine ⟨l, ?_⟩
    rw [← hl]
    have : (Cd.ds (a :: r))[0]? = some a.d := rfl
    exact atI_nat (i := 0) this
theorem one_one {x : Str} {n : Int} : Mi.m_is_one [.tuple [.str x, .int n]] = some (.bool true) := by
  simp only [e_run, e_seq, seq_nx, seq_rt, seq_none, e_skip, e_set, e_own, nxK_some, vK_some, oK_some, e_ret, rtK_some, e_if, ifK_some, e_fVar, e_bVar, va_val, vb_val, vb_own, vb_bor, at_0, at_S, set_0, set_S, e_K, e_f1, o1_some, e_f2, o2_some, e_and, and_t, and_f, and_b, e_or, or_b, e_tOf, to_b, e_tAnd, tand_b, e_tOr, tor_b, e_tNot, not_b, e_tYes, e_fIf, fif_b, e_nil, e_cons, cons_some, e_tup, tup_some, e_lst, lst_some, e_call, call_some, e_m1, e_m2, e_sSeq, seqs_l, seqs_t, seqs_s, e_for, for_some, e_asg, tg_some, e_gN, e_gT2, e_gT3, e_frz, frz_own, e_retOwn, ch_b, e_lc, co_some, lc_some, wipe_nil, wipe_cons, end_rt, end_nx, pt_none, pt_some, int_some, e_cut, cut_l, cut_t, e_app, e_sRng, pad_0, sl_f, sl_t, sl_nil, add_i, sub_i, lt_i, le_i, gt_i, ge_i, neg_i, not_d, len_l, len_t, ix_l, ix_t, max2_i, min2_i, tup_l, tup_t, lst_l, lst_t, rev_l, rev_t, bool_i, bool_b, int_b, isn_n, e_chain, e_par, e_m3, List.length_cons, List.length_nil, List.replicate, List.cons_append, List.nil_append, Option.map_some, Nat.reduceAdd, Nat.reduceSub, Nat.zero_add, if_true, if_false, ite_true, ite_false, Bool.false_eq_true, reduceCtorEq, decide_true, decide_false, not_true, not_false_iff, Bool.not_true, Bool.not_false, Bool.and_true, Bool.true_and, Bool.and_false, Bool.false_and, Bool.or_true, Bool.true_or, Bool.or_false, Bool.false_or, Mi.m_is_one, Mi.G_is_one, at_one0, inst_s]
theorem one_tie {ps : List Cd} (h : 2 ≤ ps.length) : Mi.m_is_one [.tuple (Cd.ds ps)] = some (.bool false) := by
  obtain ⟨l, hl⟩ := tie_at h
  simp only [e_run, e_seq, seq_nx, seq_rt, seq_none, e_skip, e_set, e_own, nxK_some, vK_some, oK_some, e_ret, rtK_some, e_if, ifK_some, e_fVar, e_bVar, va_val, vb_val, vb_own, vb_bor, at_0, at_S, set_0, set_S, e_K, e_f1, o1_some, e_f2, o2_some, e_and, and_t, and_f, and_b, e_or, or_b, e_tOf, to_b, e_tAnd, tand_b, e_tOr, tor_b, e_tNot, not_b, e_tYes, e_fIf, fif_b, e_nil, e_cons, cons_some, e_tup, tup_some, e_lst, lst_some, e_call, call_some, e_m1, e_m2, e_sSeq, seqs_l, seqs_t, seqs_s, e_for, for_some, e_asg, tg_some, e_gN, e_gT2, e_gT3, e_frz, frz_own, e_retOwn, ch_b, e_lc, co_some, lc_some, wipe_nil, wipe_cons, end_rt, end_nx, pt_none, pt_some, int_some, e_cut, cut_l, cut_t, e_app, e_sRng, pad_0, sl_f, sl_t, sl_nil, add_i, sub_i, lt_i, le_i, gt_i, ge_i, neg_i, not_d, len_l, len_t, ix_l, ix_t, max2_i, min2_i, tup_l, tup_t, lst_l, lst_t, rev_l, rev_t, bool_i, bool_b, int_b, isn_n, e_chain, e_par, e_m3, List.length_cons, List.length_nil, List.replicate, List.cons_append, List.nil_append, Option.map_some, Nat.reduceAdd, Nat.reduceSub, Nat.zero_add, if_true, if_false, ite_true, ite_false, Bool.false_eq_true, reduceCtorEq, decide_true, decide_false, not_true, not_false_iff, Bool.not_true, Bool.not_false, Bool.and_true, Bool.true_and, Bool.and_false, Bool.false_and, Bool.or_true, Bool.true_or, Bool.or_false, Bool.false_or, Mi.m_is_one, Mi.G_is_one, hl, inst_t]
/-! ### walks over things of a kind -/
theorem forL_map {α : Type} {enc : α → D} {tg : TgF} {body : G} {I : List α → Rho → Prop} {full : List α} : ∀ {xs pre : List α} {ρ : Rho}, full = pre ++ xs → I pre ρ →
    (∀ pre a post ρ, full = pre ++ a :: post → I pre ρ → ∃ ρ1 ρ2, tg (enc a) ρ = some ρ1 ∧ body ρ1 = some (.nx ρ2) ∧ I (pre ++ [a]) ρ2) →
    ∃ ρ', forL tg body (xs.map enc) ρ = some (.nx ρ') ∧ I full ρ'
  | [], pre, ρ, e, h, st => ⟨ρ, rfl, by simpa [e] using h⟩
  | d :: ds, pre, ρ, e, h, st => by
    obtain ⟨ρ1, ρ2, h1, h2, h3⟩ := st pre d ds ρ e h
    obtain ⟨ρ', h4, h5⟩ := forL_map (xs := ds) (pre := pre ++ [d]) (by simpa using e) h3 st
    refine ⟨ρ', ?_, h5⟩
    show (tg (enc d) ρ).bind _ = _
    rw [h1, Option.bind_some, h2]
    exact h4
/-! ### strands -/
theorem strands_cd : ∀ (n : Nat) (c : Cd), Fit c → c.dp < n → Mi.mf_strands_of n [c.d] = some (.list (c.ss.map strD))
  | 0, c, _, h => absurd h (Nat.not_lt_zero _)
  | n + 1, .one x k, _, _ => by
    simp only [Cd.d, Cd.ss]
    simp only [e_run, e_seq, seq_nx, seq_rt, seq_none, e_skip, e_set, e_own, nxK_some, vK_some, oK_some, e_ret, rtK_some, e_if, ifK_some, e_fVar, e_bVar, va_val, vb_val, vb_own, vb_bor, at_0, at_S, set_0, set_S, e_K, e_f1, o1_some, e_f2, o2_some, e_and, and_t, and_f, and_b, e_or, or_b, e_tOf, to_b, e_tAnd, tand_b, e_tOr, tor_b, e_tNot, not_b, e_tYes, e_fIf, fif_b, e_nil, e_cons, cons_some, e_tup, tup_some, e_lst, lst_some, e_call, call_some, e_m1, e_m2, e_sSeq, seqs_l, seqs_t, seqs_s, e_for, for_some, e_asg, tg_some, e_gN, e_gT2, e_gT3, e_frz, frz_own, e_retOwn, ch_b, e_lc, co_some, lc_some, wipe_nil, wipe_cons, end_rt, end_nx, pt_none, pt_some, int_some, e_cut, cut_l, cut_t, e_app, e_sRng, pad_0, sl_f, sl_t, sl_nil, add_i, sub_i, lt_i, le_i, gt_i, ge_i, neg_i, not_d, len_l, len_t, ix_l, ix_t, max2_i, min2_i, tup_l, tup_t, lst_l, lst_t, rev_l, rev_t, bool_i, bool_b, int_b, isn_n, e_chain, e_par, e_m3, List.length_cons, List.length_nil, List.replicate, List.cons_append, List.nil_append, Option.map_some, Nat.reduceAdd, Nat.reduceSub, Nat.zero_add, if_true, if_false, ite_true, ite_false, Bool.false_eq_true, reduceCtorEq, decide_true, decide_false, not_true, not_false_iff, Bool.not_true, Bool.not_false, Bool.and_true, Bool.true_and, Bool.and_false, Bool.false_and, Bool.or_true, Bool.true_or, Bool.or_false, Bool.false_or, Mi.mf_strands_of, Mi.G_strands_of, one_one, List.map_cons, List.map_nil, strD]
  | n + 1, .tie ps, h, hd => by
    obtain ⟨h2, _⟩ := tie_ok h.ok
    have hc := compL2_of (tg := gN 1) (src1 := sSeq (fCall (Mi.mf_strands_of n) [fVar 1])) (tg1 := gN 2) (vs1 := [2]) (e := fVar 2) (ρ := [.val (.tuple (Cd.ds ps)), .no, .no]) (enc := Cd.d) (g := Cd.ss) (enc2 := strD) (f := strD) (xs := ps) fun x hx =>
      ⟨_, rfl, by simp only [e_run, e_seq, seq_nx, seq_rt, seq_none, e_skip, e_set, e_own, nxK_some, vK_some, oK_some, e_ret, rtK_some, e_if, ifK_some, e_fVar, e_bVar, va_val, vb_val, vb_own, vb_bor, at_0, at_S, set_0, set_S, e_K, e_f1, o1_some, e_f2, o2_some, e_and, and_t, and_f, and_b, e_or, or_b, e_tOf, to_b, e_tAnd, tand_b, e_tOr, tor_b, e_tNot, not_b, e_tYes, e_fIf, fif_b, e_nil, e_cons, cons_some, e_tup, tup_some, e_lst, lst_some, e_call, call_some, e_m1, e_m2, e_sSeq, seqs_l, seqs_t, seqs_s, e_for, for_some, e_asg, tg_some, e_gN, e_gT2, e_gT3, e_frz, frz_own, e_retOwn, ch_b, e_lc, co_some, lc_some, wipe_nil, wipe_cons, end_rt, end_nx, pt_none, pt_some, int_some, e_cut, cut_l, cut_t, e_app, e_sRng, pad_0, sl_f, sl_t, sl_nil, add_i, sub_i, lt_i, le_i, gt_i, ge_i, neg_i, not_d, len_l, len_t, ix_l, ix_t, max2_i, min2_i, tup_l, tup_t, lst_l, lst_t, rev_l, rev_t, bool_i, bool_b, int_b, isn_n, e_chain, e_par, e_m3, List.length_cons, List.length_nil, List.replicate, List.cons_append, List.nil_append, Option.map_some, Nat.reduceAdd, Nat.reduceSub, Nat.zero_add, if_true, if_false, ite_true, ite_false, Bool.false_eq_true, reduceCtorEq, decide_true, decide_false, not_true, not_false_iff, Bool.not_true, Bool.not_false, Bool.and_true, Bool.true_and, Bool.and_false, Bool.false_and, Bool.or_true, Bool.true_or, Bool.or_false, Bool.false_or, strands_cd n x (part_fit h hx) (dp_part hx hd)], fun y _ => ⟨_, rfl, by simp only [e_run, e_seq, seq_nx, seq_rt, seq_none, e_skip, e_set, e_own, nxK_some, vK_some, oK_some, e_ret, rtK_some, e_if, ifK_some, e_fVar, e_bVar, va_val, vb_val, vb_own, vb_bor, at_0, at_S, set_0, set_S, e_K, e_f1, o1_some, e_f2, o2_some, e_and, and_t, and_f, and_b, e_or, or_b, e_tOf, to_b, e_tAnd, tand_b, e_tOr, tor_b, e_tNot, not_b, e_tYes, e_fIf, fif_b, e_nil, e_cons, cons_some, e_tup, tup_some, e_lst, lst_some, e_call, call_some, e_m1, e_m2, e_sSeq, seqs_l, seqs_t, seqs_s, e_for, for_some, e_asg, tg_some, e_gN, e_gT2, e_gT3, e_frz, frz_own, e_retOwn, ch_b, e_lc, co_some, lc_some, wipe_nil, wipe_cons, end_rt, end_nx, pt_none, pt_some, int_some, e_cut, cut_l, cut_t, e_app, e_sRng, pad_0, sl_f, sl_t, sl_nil, add_i, sub_i, lt_i, le_i, gt_i, ge_i, neg_i, not_d, len_l, len_t, ix_l, ix_t, max2_i, min2_i, tup_l, tup_t, lst_l, lst_t, rev_l, rev_t, bool_i, bool_b, int_b, isn_n, e_chain, e_par, e_m3, List.length_cons, List.length_nil, List.replicate, List.cons_append, List.nil_append, Option.map_some, Nat.reduceAdd, Nat.reduceSub, Nat.zero_add, if_true, if_false, ite_true, ite_false, Bool.false_eq_true, reduceCtorEq, decide_true, decide_false, not_true, not_false_iff, Bool.not_true, Bool.not_false, Bool.and_true, Bool.true_and, Bool.and_false, Bool.false_and, Bool.or_true, Bool.true_or, Bool.or_false, Bool.false_or]⟩⟩
    have hf : fitsL ((ps.flatMap Cd.ss).map strD).length = true := fitsL_small (by
      have := h.len
      simp only [Cd.ss, sss_flat] at this
      rw [List.length_map]; omega)
    rw [← Cd.ds_map] at hc
    simp only [Cd.d, Cd.ss]
    simp only [e_run, e_seq, seq_nx, seq_rt, seq_none, e_skip, e_set, e_own, nxK_some, vK_some, oK_some, e_ret, rtK_some, e_if, ifK_some, e_fVar, e_bVar, va_val, vb_val, vb_own, vb_bor, at_0, at_S, set_0, set_S, e_K, e_f1, o1_some, e_f2, o2_some, e_and, and_t, and_f, and_b, e_or, or_b, e_tOf, to_b, e_tAnd, tand_b, e_tOr, tor_b, e_tNot, not_b, e_tYes, e_fIf, fif_b, e_nil, e_cons, cons_some, e_tup, tup_some, e_lst, lst_some, e_call, call_some, e_m1, e_m2, e_sSeq, seqs_l, seqs_t, seqs_s, e_for, for_some, e_asg, tg_some, e_gN, e_gT2, e_gT3, e_frz, frz_own, e_retOwn, ch_b, e_lc, co_some, lc_some, wipe_nil, wipe_cons, end_rt, end_nx, pt_none, pt_some, int_some, e_cut, cut_l, cut_t, e_app, e_sRng, pad_0, sl_f, sl_t, sl_nil, add_i, sub_i, lt_i, le_i, gt_i, ge_i, neg_i, not_d, len_l, len_t, ix_l, ix_t, max2_i, min2_i, tup_l, tup_t, lst_l, lst_t, rev_l, rev_t, bool_i, bool_b, int_b, isn_n, e_chain, e_par, e_m3, List.length_cons, List.length_nil, List.replicate, List.cons_append, List.nil_append, Option.map_some, Nat.reduceAdd, Nat.reduceSub, Nat.zero_add, if_true, if_false, ite_true, ite_false, Bool.false_eq_true, reduceCtorEq, decide_true, decide_false, not_true, not_false_iff, Bool.not_true, Bool.not_false, Bool.and_true, Bool.true_and, Bool.and_false, Bool.false_and, Bool.or_true, Bool.true_or, Bool.or_false, Bool.false_or, Mi.mf_strands_of, Mi.G_strands_of, one_tie h2, e_lc2, co2_some, hc, hf]
    rw [sss_flat]
theorem strands_fit {c : Cd} (h : Fit c) : Mi.m_strands_of [c.d] = some (.list (c.ss.map strD)) := strands_cd 24 c h (by have := fit_dp h; omega)
theorem law_strands_cd : ∀ (n : Nat) (c : Cd), Fit c → c.dp < n → Mi.mf_law_strands n [c.d] = some (.list (c.ss.map strD))
  | 0, c, _, h => absurd h (Nat.not_lt_zero _)
  | n + 1, .one x k, _, _ => by
    simp only [Cd.d, Cd.ss]
    simp only [e_run, e_seq, seq_nx, seq_rt, seq_none, e_skip, e_set, e_own, nxK_some, vK_some, oK_some, e_ret, rtK_some, e_if, ifK_some, e_fVar, e_bVar, va_val, vb_val, vb_own, vb_bor, at_0, at_S, set_0, set_S, e_K, e_f1, o1_some, e_f2, o2_some, e_and, and_t, and_f, and_b, e_or, or_b, e_tOf, to_b, e_tAnd, tand_b, e_tOr, tor_b, e_tNot, not_b, e_tYes, e_fIf, fif_b, e_nil, e_cons, cons_some, e_tup, tup_some, e_lst, lst_some, e_call, call_some, e_m1, e_m2, e_sSeq, seqs_l, seqs_t, seqs_s, e_for, for_some, e_asg, tg_some, e_gN, e_gT2, e_gT3, e_frz, frz_own, e_retOwn, ch_b, e_lc, co_some, lc_some, wipe_nil, wipe_cons, end_rt, end_nx, pt_none, pt_some, int_some, e_cut, cut_l, cut_t, e_app, e_sRng, pad_0, sl_f, sl_t, sl_nil, add_i, sub_i, lt_i, le_i, gt_i, ge_i, neg_i, not_d, len_l, len_t, ix_l, ix_t, max2_i, min2_i, tup_l, tup_t, lst_l, lst_t, rev_l, rev_t, bool_i, bool_b, int_b, isn_n, e_chain, e_par, e_m3, List.length_cons, List.length_nil, List.replicate, List.cons_append, List.nil_append, Option.map_some, Nat.reduceAdd, Nat.reduceSub, Nat.zero_add, if_true, if_false, ite_true, ite_false, Bool.false_eq_true, reduceCtorEq, decide_true, decide_false, not_true, not_false_iff, Bool.not_true, Bool.not_false, Bool.and_true, Bool.true_and, Bool.and_false, Bool.false_and, Bool.or_true, Bool.true_or, Bool.or_false, Bool.false_or, Mi.mf_law_strands, Mi.G_law_strands, at_one0, inst_s, List.map_cons, List.map_nil, strD]
  | n + 1, .tie ps, h, hd => by
    obtain ⟨h2, _⟩ := tie_ok h.ok
    obtain ⟨l, hl⟩ := tie_at h2
    have hlen : (Cd.sss ps).length ≤ 8 := by have := h.len; simpa only [Cd.ss] using this
    obtain ⟨ρ', h1, c, rfl⟩ := forL_map (enc := Cd.d) (tg := gN 2) (body := Mi.B_law_strands_1 (Mi.mf_law_strands n)) (full := ps) (xs := ps) (pre := []) (ρ := [.val (.tuple (Cd.ds ps)), .val (.list []), .no])
      (I := fun qs ρ => ∃ c, ρ = [.val (.tuple (Cd.ds ps)), .val (.list ((Cd.sss qs).map strD)), c]) rfl ⟨.no, rfl⟩ fun qs a rs ρ e2 ⟨c, hρ⟩ => by
        subst hρ
        have ha : a ∈ ps := by rw [e2]; simp
        have hl2 : (Cd.sss qs).length + a.ss.length ≤ 8 := by
          rw [e2, Cd.sss_app] at hlen
          simp only [Cd.sss, List.length_append] at hlen
          omega
        refine ⟨_, _, rfl, ?_, .val a.d, rfl⟩
        have hadd := add_l (x := (Cd.sss qs).map strD) (y := a.ss.map strD) (by rw [List.length_map, List.length_map]; exact Nat.le_trans hl2 (by decide))
        simp only [e_run, e_seq, seq_nx, seq_rt, seq_none, e_skip, e_set, e_own, nxK_some, vK_some, oK_some, e_ret, rtK_some, e_if, ifK_some, e_fVar, e_bVar, va_val, vb_val, vb_own, vb_bor, at_0, at_S, set_0, set_S, e_K, e_f1, o1_some, e_f2, o2_some, e_and, and_t, and_f, and_b, e_or, or_b, e_tOf, to_b, e_tAnd, tand_b, e_tOr, tor_b, e_tNot, not_b, e_tYes, e_fIf, fif_b, e_nil, e_cons, cons_some, e_tup, tup_some, e_lst, lst_some, e_call, call_some, e_m1, e_m2, e_sSeq, seqs_l, seqs_t, seqs_s, e_for, for_some, e_asg, tg_some, e_gN, e_gT2, e_gT3, e_frz, frz_own, e_retOwn, ch_b, e_lc, co_some, lc_some, wipe_nil, wipe_cons, end_rt, end_nx, pt_none, pt_some, int_some, e_cut, cut_l, cut_t, e_app, e_sRng, pad_0, sl_f, sl_t, sl_nil, add_i, sub_i, lt_i, le_i, gt_i, ge_i, neg_i, not_d, len_l, len_t, ix_l, ix_t, max2_i, min2_i, tup_l, tup_t, lst_l, lst_t, rev_l, rev_t, bool_i, bool_b, int_b, isn_n, e_chain, e_par, e_m3, List.length_cons, List.length_nil, List.replicate, List.cons_append, List.nil_append, Option.map_some, Nat.reduceAdd, Nat.reduceSub, Nat.zero_add, if_true, if_false, ite_true, ite_false, Bool.false_eq_true, reduceCtorEq, decide_true, decide_false, not_true, not_false_iff, Bool.not_true, Bool.not_false, Bool.and_true, Bool.true_and, Bool.and_false, Bool.false_and, Bool.or_true, Bool.true_or, Bool.or_false, Bool.false_or, Mi.B_law_strands_1, law_strands_cd n a (part_fit h ha) (dp_part ha hd), hadd, Cd.sss_app, Cd.sss, List.append_nil, List.map_append]
    rw [← Cd.ds_map] at h1
    simp only [Cd.d, Cd.ss]
    simp only [e_run, e_seq, seq_nx, seq_rt, seq_none, e_skip, e_set, e_own, nxK_some, vK_some, oK_some, e_ret, rtK_some, e_if, ifK_some, e_fVar, e_bVar, va_val, vb_val, vb_own, vb_bor, at_0, at_S, set_0, set_S, e_K, e_f1, o1_some, e_f2, o2_some, e_and, and_t, and_f, and_b, e_or, or_b, e_tOf, to_b, e_tAnd, tand_b, e_tOr, tor_b, e_tNot, not_b, e_tYes, e_fIf, fif_b, e_nil, e_cons, cons_some, e_tup, tup_some, e_lst, lst_some, e_call, call_some, e_m1, e_m2, e_sSeq, seqs_l, seqs_t, seqs_s, e_for, for_some, e_asg, tg_some, e_gN, e_gT2, e_gT3, e_frz, frz_own, e_retOwn, ch_b, e_lc, co_some, lc_some, wipe_nil, wipe_cons, end_rt, end_nx, pt_none, pt_some, int_some, e_cut, cut_l, cut_t, e_app, e_sRng, pad_0, sl_f, sl_t, sl_nil, add_i, sub_i, lt_i, le_i, gt_i, ge_i, neg_i, not_d, len_l, len_t, ix_l, ix_t, max2_i, min2_i, tup_l, tup_t, lst_l, lst_t, rev_l, rev_t, bool_i, bool_b, int_b, isn_n, e_chain, e_par, e_m3, List.length_cons, List.length_nil, List.replicate, List.cons_append, List.nil_append, Option.map_some, Nat.reduceAdd, Nat.reduceSub, Nat.zero_add, if_true, if_false, ite_true, ite_false, Bool.false_eq_true, reduceCtorEq, decide_true, decide_false, not_true, not_false_iff, Bool.not_true, Bool.not_false, Bool.and_true, Bool.true_and, Bool.and_false, Bool.false_and, Bool.or_true, Bool.true_or, Bool.or_false, Bool.false_or, Mi.mf_law_strands, Mi.G_law_strands, hl, inst_t, h1]
theorem law_strands_fit {c : Cd} (h : Fit c) : Mi.m_law_strands [c.d] = some (.list (c.ss.map strD)) := law_strands_cd 24 c h (by have := fit_dp h; omega)
/-! ### sorting of ints, of texts, of rows -/
theorem sortOk_of {ds : List D} (h1 : ∀ a ∈ ds, ∀ b ∈ ds, PySem.W.alike a b = true) (h2 : (∀ a ∈ ds, tup1 a = true) ∨ ∀ a ∈ ds, plain1 a = true) (h3 : ∀ a ∈ ds, noDict a = true) (h4 : ∀ a ∈ ds, a.depth ≤ 50) (h5 : ds.length ≤ 16777216) : sortOk ds = true := by
  have n : ∀ l : List D, (∀ a ∈ l, noDict a = true) → noDicts l = true := fun l h => by
    induction l with
    | nil => rfl
    | cons a l ih => rw [noDicts, h a List.mem_cons_self, ih fun b m => h b (List.mem_cons_of_mem _ m)]; rfl
  have d : ∀ l : List D, (∀ a ∈ l, a.depth ≤ 50) → PyData.depthAll l ≤ 50 := fun l h => by
    induction l with
    | nil => exact Nat.zero_le _
    | cons a l ih => exact Nat.max_le.mpr ⟨h a List.mem_cons_self, ih fun b m => h b (List.mem_cons_of_mem _ m)⟩
  unfold sortOk alikeAllB
  rw [n ds h3, decide_eq_true (d ds h4), fitsL_small h5]
  simp only [Bool.and_true, Bool.and_eq_true, List.all_eq_true, Bool.or_eq_true]
  exact ⟨fun a m b m2 => h1 a m b m2, h2⟩
def ssort (xs : List Str) : List Str := xs.mergeSort fun a b => dle (.str a) (.str b)
theorem sort_ints {ns : List Int} (h : ns.length ≤ 16777216) : sortD (.list (ns.map .int)) = some (.list ((ns.mergeSort fun a b => decide (a ≤ b)).map .int)) := by
  show sort1 _ = _
  unfold sort1
  rw [if_pos (sortOk_of (fun a ha b hb => by obtain ⟨x, _, rfl⟩ := List.mem_map.mp ha; obtain ⟨y, _, rfl⟩ := List.mem_map.mp hb; rfl) (Or.inr fun a ha => by obtain ⟨x, _, rfl⟩ := List.mem_map.mp ha; rfl) (fun a ha => by obtain ⟨x, _, rfl⟩ := List.mem_map.mp ha; rfl) (fun a ha => by obtain ⟨x, _, rfl⟩ := List.mem_map.mp ha; exact Nat.zero_le _) (by rw [List.length_map]; exact h)), sortL_map .int (fun a b => decide (a ≤ b)) dle_int]
theorem sort1_strs {xs : List Str} (h : xs.length ≤ 16777216) : sort1 (stL xs) = some (.list (stL (ssort xs))) := by
  unfold sort1 stL
  rw [if_pos (sortOk_of (fun a ha b hb => by obtain ⟨x, _, rfl⟩ := List.mem_map.mp ha; obtain ⟨y, _, rfl⟩ := List.mem_map.mp hb; rfl) (Or.inr fun a ha => by obtain ⟨x, _, rfl⟩ := List.mem_map.mp ha; rfl) (fun a ha => by obtain ⟨x, _, rfl⟩ := List.mem_map.mp ha; rfl) (fun a ha => by obtain ⟨x, _, rfl⟩ := List.mem_map.mp ha; exact Nat.zero_le _) (by rw [List.length_map]; exact h)), sortL_map .str (fun a b => dle (.str a) (.str b)) fun _ _ => rfl]
  rfl
theorem sort_strs {xs : List Str} (h : xs.length ≤ 16777216) : sortD (.list (stL xs)) = some (.list (stL (ssort xs))) := sort1_strs h
theorem sort_dS {l : Rows} (h : l.length ≤ 16777216) : sortD (dS l) = some (.list (stL (ssort (l.map (·.1))))) := by
  show (if notT (kv l) then sort1 ((kv l).map (·.1)) else none) = _
  rw [kv_notT, if_pos rfl, kv_keys]
  exact sort1_strs (by rw [List.length_map]; exact h)
theorem ssort_perm (xs : List Str) : (ssort xs).Perm xs := List.mergeSort_perm xs _
theorem ssort_mem {xs : List Str} {x : Str} : x ∈ ssort xs ↔ x ∈ xs := (ssort_perm xs).mem_iff
theorem stL_inj : ∀ {a b : List Str}, stL a = stL b → a = b
  | [], [], _ => rfl
  | [], _ :: _, h => by cases h
  | _ :: _, [], h => by cases h
  | x :: a, y :: b, h => by
    simp only [stL, List.map_cons, List.cons.injEq, PyData.str.injEq] at h
    rw [h.1, stL_inj (a := a) (b := b) h.2]
theorem alike_strs (xs : List Str) : PySem.W.AllAlike (stL xs) := fun a ha b hb => by
  obtain ⟨x, _, rfl⟩ := List.mem_map.mp ha
  obtain ⟨y, _, rfl⟩ := List.mem_map.mp hb
  rfl
theorem ssort_stL (xs : List Str) : sortL (stL xs) = stL (ssort xs) := sortL_map .str (fun a b => dle (.str a) (.str b)) (fun _ _ => rfl) xs
theorem ssort_congr {a b : List Str} (h : a.Perm b) : ssort a = ssort b := stL_inj (by
  rw [← ssort_stL, ← ssort_stL]
  exact sortL_congr (alike_strs a) (h.map _))
theorem ssort_idem (a : List Str) : ssort (ssort a) = ssort a := ssort_congr (ssort_perm a)
/-- two lists without doubles, of the same members -/
theorem perm_of_mem {a b : List Str} (ha : a.Nodup) (hb : b.Nodup) (h : ∀ x, x ∈ a ↔ x ∈ b) : a.Perm b := (List.perm_ext_iff_of_nodup ha hb).mpr h
theorem ssort_filter (f : Str → Bool) (xs : List Str) : (ssort xs).filter f = ssort (xs.filter f) := stL_inj (by
  rw [← ssort_stL]
  symm
  refine sortL_of (alike_strs _) (((ssort_perm xs).symm.filter f).map _) ?_
  have h := sortL_sorted (stL xs)
  rw [ssort_stL] at h
  unfold stL at h ⊢
  rw [List.pairwise_map] at h ⊢
  exact h.filter f)
/-- rows by their names -/
def rsort (l : Rows) : Rows := l.mergeSort fun a b => dle (.str a.1) (.str b.1)
def rowD (e : Str × D) : D := .tuple [.str e.1, e.2]
theorem rsort_names (l : Rows) : (rsort l).map (·.1) = ssort (l.map (·.1)) := by
  unfold rsort ssort
  exact List.map_mergeSort fun a _ b _ => rfl
theorem rsort_perm (l : Rows) : (rsort l).Perm l := List.mergeSort_perm l _
theorem sort_items {l : Rows} (nd : (l.map (·.1)).Nodup) (h1 : ∀ a ∈ l, ∀ b ∈ l, PySem.W.alike a.2 b.2 = true) (h3 : ∀ a ∈ l, noDict a.2 = true) (h4 : ∀ a ∈ l, a.2.depth ≤ 49) (h5 : l.length ≤ 16777216) :
    sortItemsD (dS l) = some (.list ((rsort l).map rowD)) := by
  have al : ∀ a ∈ l, ∀ b ∈ l, PySem.W.alike (rowD a) (rowD b) = true := fun a ha b hb => by
    show PySem.W.alikeAll [_, _] [_, _] = true
    simp [PySem.W.alikeAll, PySem.W.alike, h1 a ha b hb]
  have e : ((kv l).map fun kv => PyData.tuple [kv.1, kv.2]) = l.map rowD := by simp [kv, rowD]
  show (if notT (kv l) then sort1 ((kv l).map _) else none) = _
  rw [kv_notT, if_pos rfl, e]
  unfold sort1
  rw [if_pos (sortOk_of (fun a ha b hb => by obtain ⟨x, mx, rfl⟩ := List.mem_map.mp ha; obtain ⟨y, my, rfl⟩ := List.mem_map.mp hb; exact al x mx y my) (Or.inl fun a ha => by obtain ⟨x, _, rfl⟩ := List.mem_map.mp ha; rfl) (fun a ha => by obtain ⟨x, mx, rfl⟩ := List.mem_map.mp ha; simp [rowD, noDict, noDicts, h3 x mx]) (fun a ha => by
    obtain ⟨x, mx, rfl⟩ := List.mem_map.mp ha
    have := h4 x mx
    simp [rowD, PyData.depth, PyData.depthAll]; omega) (by rw [List.length_map]; exact h5))]
  unfold sortL rsort
  rw [← List.map_mergeSort fun a ha b hb => ?_]
  show dle (.str a.1) (.str b.1) = !PySem.W.dataLt (rowD b) (rowD a)
  by_cases he : a.1 = b.1
  · have hab : a = b := nodup_uniq nd ha hb he
    rw [hab]
    have t1 : dle (.str b.1) (.str b.1) = true := by simpa using dle_total (.str b.1) (.str b.1)
    have t2 : dle (rowD b) (rowD b) = true := by simpa using dle_total (rowD b) (rowD b)
    rw [t1]
    exact t2.symm
  · have h2 := PySem.W.dataLt_pair (x := .str b.1) (y := b.2) (x' := .str a.1) (y' := a.2) rfl (h1 b hb a ha)
    rw [eqv_ss, if_neg (by simpa using fun h => he h.symm)] at h2
    show _ = !PySem.W.dataLt (.tuple [_, _]) (.tuple [_, _])
    rw [h2]
    exact dle_eq _ _
/-! ### names -/
theorem names_ok {c : Cd} (h : Fit c) : Mi.m_law_names [c.d] = some (.list (stL (ssort (nms c)))) := by
  have hc : compL (gT2 1 2) tYes (fVar 1) [.val c.d, .no, .no] (c.ss.map strD) = some (c.ss.map fun s => .str s.1) := compL_of fun s _ => ⟨_, rfl, by simp only [e_run, e_seq, seq_nx, seq_rt, seq_none, e_skip, e_set, e_own, nxK_some, vK_some, oK_some, e_ret, rtK_some, e_if, ifK_some, e_fVar, e_bVar, va_val, vb_val, vb_own, vb_bor, at_0, at_S, set_0, set_S, e_K, e_f1, o1_some, e_f2, o2_some, e_and, and_t, and_f, and_b, e_or, or_b, e_tOf, to_b, e_tAnd, tand_b, e_tOr, tor_b, e_tNot, not_b, e_tYes, e_fIf, fif_b, e_nil, e_cons, cons_some, e_tup, tup_some, e_lst, lst_some, e_call, call_some, e_m1, e_m2, e_sSeq, seqs_l, seqs_t, seqs_s, e_for, for_some, e_asg, tg_some, e_gN, e_gT2, e_gT3, e_frz, frz_own, e_retOwn, ch_b, e_lc, co_some, lc_some, wipe_nil, wipe_cons, end_rt, end_nx, pt_none, pt_some, int_some, e_cut, cut_l, cut_t, e_app, e_sRng, pad_0, sl_f, sl_t, sl_nil, add_i, sub_i, lt_i, le_i, gt_i, ge_i, neg_i, not_d, len_l, len_t, ix_l, ix_t, max2_i, min2_i, tup_l, tup_t, lst_l, lst_t, rev_l, rev_t, bool_i, bool_b, int_b, isn_n, e_chain, e_par, e_m3, List.length_cons, List.length_nil, List.replicate, List.cons_append, List.nil_append, Option.map_some, Nat.reduceAdd, Nat.reduceSub, Nat.zero_add, if_true, if_false, ite_true, ite_false, Bool.false_eq_true, reduceCtorEq, decide_true, decide_false, not_true, not_false_iff, Bool.not_true, Bool.not_false, Bool.and_true, Bool.true_and, Bool.and_false, Bool.false_and, Bool.or_true, Bool.true_or, Bool.or_false, Bool.false_or]⟩
  have hf : fitsL (c.ss.map fun s => PyData.str s.1).length = true := fitsL_small (by rw [List.length_map]; have := h.len; omega)
  have e : (c.ss.map fun s => PyData.str s.1) = stL (nms c) := by simp [stL, nms]
  have hs := sort_strs (xs := nms c) (by have := h.len; unfold nms; rw [List.length_map]; omega)
  rw [e] at hf hc
  simp only [e_run, e_seq, seq_nx, seq_rt, seq_none, e_skip, e_set, e_own, nxK_some, vK_some, oK_some, e_ret, rtK_some, e_if, ifK_some, e_fVar, e_bVar, va_val, vb_val, vb_own, vb_bor, at_0, at_S, set_0, set_S, e_K, e_f1, o1_some, e_f2, o2_some, e_and, and_t, and_f, and_b, e_or, or_b, e_tOf, to_b, e_tAnd, tand_b, e_tOr, tor_b, e_tNot, not_b, e_tYes, e_fIf, fif_b, e_nil, e_cons, cons_some, e_tup, tup_some, e_lst, lst_some, e_call, call_some, e_m1, e_m2, e_sSeq, seqs_l, seqs_t, seqs_s, e_for, for_some, e_asg, tg_some, e_gN, e_gT2, e_gT3, e_frz, frz_own, e_retOwn, ch_b, e_lc, co_some, lc_some, wipe_nil, wipe_cons, end_rt, end_nx, pt_none, pt_some, int_some, e_cut, cut_l, cut_t, e_app, e_sRng, pad_0, sl_f, sl_t, sl_nil, add_i, sub_i, lt_i, le_i, gt_i, ge_i, neg_i, not_d, len_l, len_t, ix_l, ix_t, max2_i, min2_i, tup_l, tup_t, lst_l, lst_t, rev_l, rev_t, bool_i, bool_b, int_b, isn_n, e_chain, e_par, e_m3, List.length_cons, List.length_nil, List.replicate, List.cons_append, List.nil_append, Option.map_some, Nat.reduceAdd, Nat.reduceSub, Nat.zero_add, if_true, if_false, ite_true, ite_false, Bool.false_eq_true, reduceCtorEq, decide_true, decide_false, not_true, not_false_iff, Bool.not_true, Bool.not_false, Bool.and_true, Bool.true_and, Bool.and_false, Bool.false_and, Bool.or_true, Bool.true_or, Bool.or_false, Bool.false_or, Mi.m_law_names, Mi.G_law_names, law_strands_fit h, hc, hf, hs]
/-! ### the greatest -/
theorem ints_map : ∀ ns : List Int, intsL (ns.map .int) = some ns
  | [] => rfl
  | n :: r => by simp [intsL, ints_map r]
/-- (k + 1) * the k-th -/
def mulsL : Nat → List Int → List Int
  | _, [] => []
  | k, n :: r => ((k + 1 : Nat) : Int) * n :: mulsL (k + 1) r
theorem mulsL_max : ∀ (k : Nat) (ns : List Int), maxI (mulsL k ns) = bestL k ns
  | _, [] => rfl
  | _, [_] => rfl
  | k, n :: n2 :: r => by
    have ih := mulsL_max (k + 1) (n2 :: r)
    simp only [mulsL] at ih
    simp only [mulsL, maxI, bestL, ih]
theorem mulsL_len : ∀ (k : Nat) (ns : List Int), (mulsL k ns).length = ns.length
  | _, [] => rfl
  | k, n :: r => by simp [mulsL, mulsL_len (k + 1) r]
theorem num_len : ∀ (k : Nat) (ds : List D), (numFrom k ds).length = ds.length
  | _, [] => rfl
  | k, n :: r => by simp [numFrom, num_len (k + 1) r]
theorem comp_num {tg : TgF} {e : F1} {ρ : Rho} : ∀ {ns : List Int} {k : Nat}, (∀ (j : Nat) (n : Int), j < k + ns.length → ∃ ρ1, tg (.tuple [.int (j : Nat), .int n]) ρ = some ρ1 ∧ e ρ1 = some (.int (((j + 1 : Nat) : Int) * n))) →
    compL tg tYes e ρ (numFrom k (ns.map .int)) = some ((mulsL k ns).map .int)
  | [], _, _ => rfl
  | n :: r, k, h => by
    obtain ⟨ρ1, h1, h2⟩ := h k n (by simp)
    have ih := comp_num (ns := r) (k := k + 1) fun j n hj => h j n (by simp; omega)
    simp only [List.map_cons, numFrom, compL, h1, tYes, Option.bind_some, if_true, h2, ih, mulsL]
theorem best_some {ns : List Int} (h : ns ≠ []) : bestL 0 (desc ns) = some (best ns) := by
  have hd : desc ns ≠ [] := fun e => h (by have := (desc_perm ns).length_eq; rw [e] at this; exact List.length_eq_zero_iff.mp this.symm)
  obtain ⟨m, hm⟩ := bestL_some 0 hd
  unfold best
  rw [hm]
  rfl
theorem desc_len (ns : List Int) : (desc ns).length = ns.length := (desc_perm ns).length_eq
theorem grs_len (ps : List Cd) : (grs ps).length = ps.length := by rw [grs_map, List.length_map]
theorem greatest_ok : ∀ (n : Nat) (c : Cd), Fit c → c.dp < n → Mi.mf_greatest n [c.d] = some (.int (gr c))
  | 0, c, _, h => absurd h (Nat.not_lt_zero _)
  | n + 1, .one x k, _, _ => by
    simp only [Cd.d, gr]
    simp only [e_run, e_seq, seq_nx, seq_rt, seq_none, e_skip, e_set, e_own, nxK_some, vK_some, oK_some, e_ret, rtK_some, e_if, ifK_some, e_fVar, e_bVar, va_val, vb_val, vb_own, vb_bor, at_0, at_S, set_0, set_S, e_K, e_f1, o1_some, e_f2, o2_some, e_and, and_t, and_f, and_b, e_or, or_b, e_tOf, to_b, e_tAnd, tand_b, e_tOr, tor_b, e_tNot, not_b, e_tYes, e_fIf, fif_b, e_nil, e_cons, cons_some, e_tup, tup_some, e_lst, lst_some, e_call, call_some, e_m1, e_m2, e_sSeq, seqs_l, seqs_t, seqs_s, e_for, for_some, e_asg, tg_some, e_gN, e_gT2, e_gT3, e_frz, frz_own, e_retOwn, ch_b, e_lc, co_some, lc_some, wipe_nil, wipe_cons, end_rt, end_nx, pt_none, pt_some, int_some, e_cut, cut_l, cut_t, e_app, e_sRng, pad_0, sl_f, sl_t, sl_nil, add_i, sub_i, lt_i, le_i, gt_i, ge_i, neg_i, not_d, len_l, len_t, ix_l, ix_t, max2_i, min2_i, tup_l, tup_t, lst_l, lst_t, rev_l, rev_t, bool_i, bool_b, int_b, isn_n, e_chain, e_par, e_m3, List.length_cons, List.length_nil, List.replicate, List.cons_append, List.nil_append, Option.map_some, Nat.reduceAdd, Nat.reduceSub, Nat.zero_add, if_true, if_false, ite_true, ite_false, Bool.false_eq_true, reduceCtorEq, decide_true, decide_false, not_true, not_false_iff, Bool.not_true, Bool.not_false, Bool.and_true, Bool.true_and, Bool.and_false, Bool.false_and, Bool.or_true, Bool.true_or, Bool.or_false, Bool.false_or, Mi.mf_greatest, Mi.G_greatest, one_one, at_one1]
  | n + 1, .tie ps, h, hd => by
    obtain ⟨h2, _⟩ := tie_ok h.ok
    have h8 := fit_len h
    have hc : compL (gN 2) tYes (fCall (Mi.mf_greatest n) [fVar 2]) [.val (.tuple (Cd.ds ps)), .no, .no, .no, .no] (Cd.ds ps) = some ((grs ps).map .int) := by
      rw [Cd.ds_map, compL_of (g := fun c => .int (gr c)) fun c hc => ⟨_, rfl, by simp only [e_run, e_seq, seq_nx, seq_rt, seq_none, e_skip, e_set, e_own, nxK_some, vK_some, oK_some, e_ret, rtK_some, e_if, ifK_some, e_fVar, e_bVar, va_val, vb_val, vb_own, vb_bor, at_0, at_S, set_0, set_S, e_K, e_f1, o1_some, e_f2, o2_some, e_and, and_t, and_f, and_b, e_or, or_b, e_tOf, to_b, e_tAnd, tand_b, e_tOr, tor_b, e_tNot, not_b, e_tYes, e_fIf, fif_b, e_nil, e_cons, cons_some, e_tup, tup_some, e_lst, lst_some, e_call, call_some, e_m1, e_m2, e_sSeq, seqs_l, seqs_t, seqs_s, e_for, for_some, e_asg, tg_some, e_gN, e_gT2, e_gT3, e_frz, frz_own, e_retOwn, ch_b, e_lc, co_some, lc_some, wipe_nil, wipe_cons, end_rt, end_nx, pt_none, pt_some, int_some, e_cut, cut_l, cut_t, e_app, e_sRng, pad_0, sl_f, sl_t, sl_nil, add_i, sub_i, lt_i, le_i, gt_i, ge_i, neg_i, not_d, len_l, len_t, ix_l, ix_t, max2_i, min2_i, tup_l, tup_t, lst_l, lst_t, rev_l, rev_t, bool_i, bool_b, int_b, isn_n, e_chain, e_par, e_m3, List.length_cons, List.length_nil, List.replicate, List.cons_append, List.nil_append, Option.map_some, Nat.reduceAdd, Nat.reduceSub, Nat.zero_add, if_true, if_false, ite_true, ite_false, Bool.false_eq_true, reduceCtorEq, decide_true, decide_false, not_true, not_false_iff, Bool.not_true, Bool.not_false, Bool.and_true, Bool.true_and, Bool.and_false, Bool.false_and, Bool.or_true, Bool.true_or, Bool.or_false, Bool.false_or, greatest_ok n c (part_fit h hc) (dp_part hc hd)]⟩, grs_map, List.map_map]
      rfl
    have hf : fitsL ((grs ps).map PyData.int).length = true := fitsL_small (by rw [List.length_map, grs_len]; omega)
    have hs := sort_ints (ns := grs ps) (by rw [grs_len]; omega)
    have hr : revD (.list (((grs ps).mergeSort fun a b => decide (a ≤ b)).map .int)) = some (.list ((desc (grs ps)).map .int)) := by
      show some (PyData.list _) = _
      rw [← List.map_reverse]; rfl
    have hn := comp_num (tg := gT2 3 4) (e := f2 mulD (f2 addD (bVar 3) (fK (.int 1))) (bVar 4)) (ρ := [.val (.tuple (Cd.ds ps)), .val (.list ((desc (grs ps)).map .int)), .no, .no, .no]) (ns := desc (grs ps)) (k := 0) fun j n hj => by
      rw [desc_len, grs_len] at hj
      exact ⟨_, rfl, by simp only [e_run, e_seq, seq_nx, seq_rt, seq_none, e_skip, e_set, e_own, nxK_some, vK_some, oK_some, e_ret, rtK_some, e_if, ifK_some, e_fVar, e_bVar, va_val, vb_val, vb_own, vb_bor, at_0, at_S, set_0, set_S, e_K, e_f1, o1_some, e_f2, o2_some, e_and, and_t, and_f, and_b, e_or, or_b, e_tOf, to_b, e_tAnd, tand_b, e_tOr, tor_b, e_tNot, not_b, e_tYes, e_fIf, fif_b, e_nil, e_cons, cons_some, e_tup, tup_some, e_lst, lst_some, e_call, call_some, e_m1, e_m2, e_sSeq, seqs_l, seqs_t, seqs_s, e_for, for_some, e_asg, tg_some, e_gN, e_gT2, e_gT3, e_frz, frz_own, e_retOwn, ch_b, e_lc, co_some, lc_some, wipe_nil, wipe_cons, end_rt, end_nx, pt_none, pt_some, int_some, e_cut, cut_l, cut_t, e_app, e_sRng, pad_0, sl_f, sl_t, sl_nil, add_i, sub_i, lt_i, le_i, gt_i, ge_i, neg_i, not_d, len_l, len_t, ix_l, ix_t, max2_i, min2_i, tup_l, tup_t, lst_l, lst_t, rev_l, rev_t, bool_i, bool_b, int_b, isn_n, e_chain, e_par, e_m3, List.length_cons, List.length_nil, List.replicate, List.cons_append, List.nil_append, Option.map_some, Nat.reduceAdd, Nat.reduceSub, Nat.zero_add, if_true, if_false, ite_true, ite_false, Bool.false_eq_true, reduceCtorEq, decide_true, decide_false, not_true, not_false_iff, Bool.not_true, Bool.not_false, Bool.and_true, Bool.true_and, Bool.and_false, Bool.false_and, Bool.or_true, Bool.true_or, Bool.or_false, Bool.false_or, mul_ok (a := (j : Int) + 1) (b := n) (Or.inl (by omega))]; rw [show ((j + 1 : Nat) : Int) = (j : Int) + 1 by omega]⟩
    have hf2 : fitsL ((mulsL 0 (desc (grs ps))).map PyData.int).length = true := fitsL_small (by rw [List.length_map, mulsL_len, desc_len, grs_len]; omega)
    have hm : maxD (.list ((mulsL 0 (desc (grs ps))).map .int)) = some (.int (best (grs ps))) := by
      show ((intsL _).bind maxI).map _ = _
      rw [ints_map, Option.bind_some, mulsL_max, best_some (by intro e; have := congrArg List.length e; rw [grs_len] at this; simp at this; rw [this] at h2; simp at h2)]
      rfl
    simp only [Cd.d, gr]
    simp only [e_run, e_seq, seq_nx, seq_rt, seq_none, e_skip, e_set, e_own, nxK_some, vK_some, oK_some, e_ret, rtK_some, e_if, ifK_some, e_fVar, e_bVar, va_val, vb_val, vb_own, vb_bor, at_0, at_S, set_0, set_S, e_K, e_f1, o1_some, e_f2, o2_some, e_and, and_t, and_f, and_b, e_or, or_b, e_tOf, to_b, e_tAnd, tand_b, e_tOr, tor_b, e_tNot, not_b, e_tYes, e_fIf, fif_b, e_nil, e_cons, cons_some, e_tup, tup_some, e_lst, lst_some, e_call, call_some, e_m1, e_m2, e_sSeq, seqs_l, seqs_t, seqs_s, e_for, for_some, e_asg, tg_some, e_gN, e_gT2, e_gT3, e_frz, frz_own, e_retOwn, ch_b, e_lc, co_some, lc_some, wipe_nil, wipe_cons, end_rt, end_nx, pt_none, pt_some, int_some, e_cut, cut_l, cut_t, e_app, e_sRng, pad_0, sl_f, sl_t, sl_nil, add_i, sub_i, lt_i, le_i, gt_i, ge_i, neg_i, not_d, len_l, len_t, ix_l, ix_t, max2_i, min2_i, tup_l, tup_t, lst_l, lst_t, rev_l, rev_t, bool_i, bool_b, int_b, isn_n, e_chain, e_par, e_m3, List.length_cons, List.length_nil, List.replicate, List.cons_append, List.nil_append, Option.map_some, Nat.reduceAdd, Nat.reduceSub, Nat.zero_add, if_true, if_false, ite_true, ite_false, Bool.false_eq_true, reduceCtorEq, decide_true, decide_false, not_true, not_false_iff, Bool.not_true, Bool.not_false, Bool.and_true, Bool.true_and, Bool.and_false, Bool.false_and, Bool.or_true, Bool.true_or, Bool.or_false, Bool.false_or, Mi.mf_greatest, Mi.G_greatest, one_tie h2, hc, hf, hs, hr, e_enum, en_l, hn, hf2, hm]
theorem greatest_fit {c : Cd} (h : Fit c) : Mi.m_greatest [c.d] = some (.int (gr c)) := greatest_ok 24 c h (by have := fit_dp h; omega)
end Fact
set_option maxRecDepth 100000
/-! Shares: who holds at last, and what each bears. -/
namespace Fact
open PySem Pu
/-! ### lowest terms -/
theorem low_scale {p q k : Int} (hk : 0 < k) : lowD (k * p) (k * q) = lowD p q := by
  obtain ⟨m, rfl⟩ := Int.eq_ofNat_of_zero_le (Int.le_of_lt hk)
  have e : (Int.gcd ((m : Int) * p) ((m : Int) * q) : Int) = (m : Int) * (Int.gcd p q : Int) := by
    rw [Int.gcd_mul_left]
    simp
  unfold lowD
  rw [e, Int.mul_ediv_mul_of_pos _ _ hk, Int.mul_ediv_mul_of_pos _ _ hk]
theorem low_eq {p q p' q' : Int} (hq : 0 < q) (hq' : 0 < q') (h : p * q' = p' * q) : lowD p q = lowD p' q' := by
  rw [← low_scale (p := p) (q := q) hq', ← low_scale (p := p') (q := q') hq, Int.mul_comm q' p, h, Int.mul_comm p' q, Int.mul_comm q' q]
/-- a load in lowest terms -/
theorem low_form {p q : Int} (hp : 0 ≤ p) (hq : 0 < q) : ∃ p0 q0, lowD p q = ldD p0 q0 ∧ 0 ≤ p0 ∧ 0 < q0 ∧ q0 ≤ q ∧ p0 * q = p * q0 := by
  obtain ⟨g1, _⟩ := gcd_pos (p := p) hq
  have e1 : (Int.gcd p q : Int) * (p / Int.gcd p q) = p := Int.mul_ediv_cancel' (Int.gcd_dvd_left _ _)
  have e2 : (Int.gcd p q : Int) * (q / Int.gcd p q) = q := Int.mul_ediv_cancel' (Int.gcd_dvd_right _ _)
  refine ⟨p / Int.gcd p q, q / Int.gcd p q, rfl, Int.ediv_nonneg hp (by omega), Int.ediv_pos_of_pos_of_dvd hq (by omega) (Int.gcd_dvd_right _ _), Int.ediv_le_self _ (by omega), ?_⟩
  generalize hg : (Int.gcd p q : Int) = g at *
  generalize p / g = a at *
  generalize q / g = b at *
  rw [← e1, ← e2, Int.mul_comm g a, Int.mul_assoc]
theorem parted_low {p q : Int} {m : Nat} (hp : 0 ≤ p) (hq : 0 < q) (hl : q * m < 1000000000000) (hm : 0 < m) (hm2 : m < 1000000) : Mi.m_parted_by [lowD p q, .int m] = some (lowD p (q * m)) := by
  obtain ⟨p0, q0, e, h1, h2, h3, h4⟩ := low_form hp hq
  have hm' : (0 : Int) < m := by omega
  have hle : q0 * (m : Int) ≤ q * m := Int.mul_le_mul_of_nonneg_right h3 (by omega)
  rw [e, parted_ok h1 h2 (by omega) hm hm2, low_eq (Int.mul_pos h2 hm') (Int.mul_pos hq hm') (by rw [← Int.mul_assoc, h4, Int.mul_assoc])]
/-! ### steps -/
def d1K : Option D → Option D → Option D
  | some x, some y => if keyOk x then some (.dict [(x, y)]) else none
  | _, _ => none
theorem e_dict1 {k v : F1} {ρ : Rho} : fDict1 k v ρ = d1K (k ρ) (v ρ) := nr (by unfold fDict1; cases k ρ <;> cases v ρ <;> rfl)
theorem d1_s {x : Str} {y : D} : d1K (some (.str x)) (some y) = some (.dict [(.str x, y)]) := nr rfl
theorem ne_nil {ds : List D} (h : noDicts ds = true) : neD (.list ds) (.list []) = some (.bool (!ds.isEmpty)) := by
  show ((if (noDict (.list ds) && noDict (.list []) && decide (min (PyData.list ds).depth (PyData.list []).depth ≤ 64)) = true then some (PyData.eqv (.list ds) (.list [])) else none).map fun b => PyData.bool (!b)) = _
  have hd : min (PyData.list ds).depth (PyData.list []).depth ≤ 64 := Nat.le_trans (Nat.min_le_right _ _) (by decide)
  have hn : noDict (.list ds) = true := h
  rw [if_pos (by rw [hn, decide_eq_true hd]; rfl)]
  cases ds <;> rfl
theorem noDicts_of {ds : List D} (h : ∀ d ∈ ds, noDict d = true) : noDicts ds = true := by
  induction ds with
  | nil => rfl
  | cons a l ih => rw [noDicts, h a List.mem_cons_self, ih fun b m => h b (List.mem_cons_of_mem _ m)]; rfl
theorem at_last {ds : List D} {d : D} (h : ds.getLast? = some d) : L2.atI ds (-1) = some d := by
  have hne : ds ≠ [] := by intro e; subst e; cases h
  have hl := List.length_pos_iff.mpr hne
  unfold L2.atI L2.ixN
  rw [if_neg (by omega), if_pos (by omega)]
  rw [List.getLast?_eq_getElem?] at h
  have : (-1 + (ds.length : Int)).toNat = ds.length - 1 := by omega
  first | (rw [this]; exact h) | (simp only [this]; exact h) | (show ds[_]? = _; rw [← h]; congr 1; omega)
/-! ### the good numbers -/
def goodL (p q : Int) : Nat → List Int → List Nat
  | _, [] => []
  | k, n :: r => if p ≤ ((k + 1 : Nat) : Int) * n * q then (k + 1) :: goodL p q (k + 1) r else goodL p q (k + 1) r
theorem goodL_eq {p q : Int} {Q : Nat → Bool} : ∀ {l : List Int} {k : Nat}, (∀ j n, l[j]? = some n → (p ≤ ((k + j + 1 : Nat) : Int) * n * q ↔ Q (k + j) = true)) → goodL p q k l = ((List.range' k l.length).filter Q).map (· + 1)
  | [], _, _ => rfl
  | n :: r, k, h => by
    have ih := goodL_eq (p := p) (q := q) (Q := Q) (l := r) (k := k + 1) fun j n' hj => by
      have := h (j + 1) n' hj
      rw [show k + (j + 1) = k + 1 + j by omega] at this
      exact this
    have h0 := h 0 n rfl
    simp only [Nat.add_zero] at h0
    simp only [goodL, List.length_cons, List.range'_succ, ih]
    by_cases hq : Q k = true
    · rw [if_pos (h0.mpr hq), List.filter_cons_of_pos hq, List.map_cons]
    · rw [if_neg (fun g => hq (h0.mp g)), List.filter_cons_of_neg hq]
theorem goodL_desc {p q : Int} (hq : 0 ≤ q) (ns : List Int) : goodL p q 0 (desc ns) = goods p q ns := by
  rw [goodL_eq (Q := fun k => decide (k < many (bears p q (k + 1)) ns)) fun j n hj => ?_]
  · unfold goods
    rw [desc_len, List.range_eq_range']
  · have h := desc_at (bears_up (p := p) hq (j + 1)) (desc_sorted ns) j n hj
    rw [many_perm (desc_perm ns)] at h
    simp only [Nat.zero_add, decide_eq_true_eq]
    rw [← h]
    unfold bears
    rw [decide_eq_true_eq]
theorem goods_len (p q : Int) (ns : List Int) : (goods p q ns).length ≤ ns.length := by
  unfold goods
  rw [List.length_map]
  exact Nat.le_trans (List.length_filter_le _ _) (by simp)
theorem comp_good {tg : TgF} {t : FB} {e : F1} {ρ : Rho} {p q : Int} : ∀ {ns : List Int} {k : Nat}, (∀ (j : Nat) (n : Int), j < k + ns.length → ∃ ρ1, tg (.tuple [.int (j : Nat), .int n]) ρ = some ρ1 ∧ t ρ1 = some (decide (p ≤ ((j + 1 : Nat) : Int) * n * q)) ∧ e ρ1 = some (.int ((j + 1 : Nat) : Int))) →
    compL tg t e ρ (numFrom k (ns.map .int)) = some ((goodL p q k ns).map fun (i : Nat) => .int i)
  | [], _, _ => rfl
  | n :: r, k, h => by
    obtain ⟨ρ1, h1, h2, h3⟩ := h k n (by simp)
    have ih := comp_good (p := p) (q := q) (ns := r) (k := k + 1) fun j n hj => h j n (by simp; omega)
    simp only [List.map_cons, numFrom, compL, h1, Option.bind_some, h2, ih, h3, goodL]
    by_cases hc : p ≤ ((k + 1 : Nat) : Int) * n * q
    · rw [decide_eq_true hc, if_pos rfl, if_pos hc, List.map_cons]
    · rw [decide_eq_false hc, if_neg (by simp), if_neg hc]
theorem mx_last {p q : Int} {ns : List Int} (h : goods p q ns ≠ []) : (goods p q ns).getLast? = some (mx p q ns) ∧ 0 < mx p q ns := by
  cases e : (goods p q ns).getLast? with
  | none => exact absurd (List.getLast?_eq_none_iff.mp e) h
  | some m =>
    have : mx p q ns = m := by unfold mx; rw [e]; rfl
    rw [this]
    exact ⟨rfl, (goods_mem.mp (List.mem_of_getLast? e)).1⟩
theorem mx_nil {p q : Int} {ns : List Int} (h : goods p q ns = []) : mx p q ns = 0 := by unfold mx; rw [h]; rfl
theorem mx_le (p q : Int) (ns : List Int) : mx p q ns ≤ ns.length := by
  by_cases h : mx p q ns = 0
  · omega
  · have := mx_good h
    have := many_le (bears p q (mx p q ns)) ns
    omega
/-! ### names of those that hold -/
mutual
theorem shs_sub : ∀ (c : Cd) (p q : Int), ((shs p q c).map (·.1)).Sublist (nms c)
  | .one x n, p, q => by
    simp only [shs, nms, Cd.ss]
    by_cases h : p ≤ n * q
    · rw [if_pos h]; exact List.Sublist.refl _
    · rw [if_neg h]; exact List.nil_sublist _
  | .tie ps, p, q => by
    have := shss_sub ps p (q * mx p q (grs ps))
    simp only [shs]
    by_cases h : mx p q (grs ps) = 0
    · rw [if_pos h]; exact List.nil_sublist _
    · rw [if_neg h]; simpa [nms, nmss, Cd.ss] using this
theorem shss_sub : ∀ (cs : List Cd) (p q : Int), ((shss p q cs).map (·.1)).Sublist (nmss cs)
  | [], _, _ => List.Sublist.refl _
  | c :: cs, p, q => by
    simp only [shss, nmss, Cd.sss, List.map_append]
    exact (shs_sub c p q).append (shss_sub cs p q)
end
theorem shss_app (p q : Int) (a b : List Cd) : shss p q (a ++ b) = shss p q a ++ shss p q b := by simp [shss_flat]
theorem nmss_app (a b : List Cd) : nmss (a ++ b) = nmss a ++ nmss b := by simp [nmss, Cd.sss_app]
theorem tie_nd {ps : List Cd} (h : Fit (.tie ps)) : (nmss ps).Nodup := by simpa [nms, nmss, Cd.ss] using h.nd
theorem nmss_len {ps : List Cd} (h : Fit (.tie ps)) : (nmss ps).length ≤ 8 := by have := h.len; simpa [nmss, Cd.ss] using this
/-! ### shares -/
def shR (p : Int) (l : List (Str × Int)) : Rows := l.map fun r => (r.1, lowD p r.2)
theorem shR_names (p : Int) (l : List (Str × Int)) : (shR p l).map (·.1) = l.map (·.1) := by simp [shR]
theorem pow8 {q : Int} {n : Nat} {m : Nat} (hq : 0 < q) (hm : m ≤ 8) (h : q * 8 ^ (n + 1) < 1000000000000) : q * m * 8 ^ n < 1000000000000 ∧ q * (m : Int) < 1000000000000 := by
  have e : (8 : Int) ^ (n + 1) = 8 * 8 ^ n := by rw [Int.pow_succ, Int.mul_comm]
  have h8 : (1 : Int) ≤ 8 ^ n := by exact_mod_cast Nat.pow_pos (n := n) (show 0 < 8 by decide)
  have h1 : q * (m : Int) ≤ q * 8 := Int.mul_le_mul_of_nonneg_left (by omega) (by omega)
  have h2 : q * (m : Int) * 8 ^ n ≤ q * 8 * 8 ^ n := Int.mul_le_mul_of_nonneg_right h1 (by omega)
  have h3 : q * 8 * 1 ≤ q * 8 * 8 ^ n := Int.mul_le_mul_of_nonneg_left h8 (by omega)
  rw [e, ← Int.mul_assoc] at h
  omega
theorem pow_mono {q : Int} {a b : Nat} (hq : 0 < q) (hab : a ≤ b) (h : q * 8 ^ b < 1000000000000) : q * 8 ^ a < 1000000000000 := by
  have : (8 : Int) ^ a ≤ 8 ^ b := by exact_mod_cast Nat.pow_le_pow_right (show 0 < 8 by decide) hab
  have := Int.mul_le_mul_of_nonneg_left this (Int.le_of_lt hq)
  omega
theorem shares_ok : ∀ (n : Nat) (c : Cd) (p q : Int), Fit c → c.dp < n → 0 ≤ p → 0 < q → q * 8 ^ c.dp < 1000000000000 → Mi.mf_shares n [c.d, lowD p q] = some (dS (shR p (shs p q c)))
  | 0, c, _, _, _, h, _, _, _ => absurd h (Nat.not_lt_zero _)
  | n + 1, .one x k, p, q, _, _, hp, hq, hb => by
    obtain ⟨p0, q0, e, h1, h2, h3, h4⟩ := low_form hp hq
    have hb : q < 1000000000000 := by simpa [Cd.dp] using hb
    have hm : mulD (.int k) (.int q0) = some (.int (k * q0)) := mul_ok (Or.inr (by omega))
    have hr := ratio_le (x := k) h2 hq h4
    simp only [Cd.d, shs, e, ldD]
    by_cases hc : p ≤ k * q
    · have hc' : p0 ≤ k * q0 := hr.mpr hc
      simp only [e_run, e_seq, seq_nx, seq_rt, seq_none, e_skip, e_set, e_own, nxK_some, vK_some, oK_some, e_ret, rtK_some, e_if, ifK_some, e_fVar, e_bVar, va_val, vb_val, vb_own, vb_bor, at_0, at_S, set_0, set_S, e_K, e_f1, o1_some, e_f2, o2_some, e_and, and_t, and_f, and_b, e_or, or_b, e_tOf, to_b, e_tAnd, tand_b, e_tOr, tor_b, e_tNot, not_b, e_tYes, e_fIf, fif_b, e_nil, e_cons, cons_some, e_tup, tup_some, e_lst, lst_some, e_call, call_some, e_m1, e_m2, e_sSeq, seqs_l, seqs_t, seqs_s, e_for, for_some, e_asg, tg_some, e_gN, e_gT2, e_gT3, e_frz, frz_own, e_retOwn, ch_b, e_lc, co_some, lc_some, wipe_nil, wipe_cons, end_rt, end_nx, pt_none, pt_some, int_some, e_cut, cut_l, cut_t, e_app, e_sRng, pad_0, sl_f, sl_t, sl_nil, add_i, sub_i, lt_i, le_i, gt_i, ge_i, neg_i, not_d, len_l, len_t, ix_l, ix_t, max2_i, min2_i, tup_l, tup_t, lst_l, lst_t, rev_l, rev_t, bool_i, bool_b, int_b, isn_n, e_chain, e_par, e_m3, List.length_cons, List.length_nil, List.replicate, List.cons_append, List.nil_append, Option.map_some, Nat.reduceAdd, Nat.reduceSub, Nat.zero_add, if_true, if_false, ite_true, ite_false, Bool.false_eq_true, reduceCtorEq, decide_true, decide_false, not_true, not_false_iff, Bool.not_true, Bool.not_false, Bool.and_true, Bool.true_and, Bool.and_false, Bool.false_and, Bool.or_true, Bool.true_or, Bool.or_false, Bool.false_or, Mi.mf_shares, Mi.G_shares, one_one, at_one0, at_one1, at_two0, at_two1, hm, hc', e_dict1, d1_s, hc]
      simp [dS, kv, shR, e, ldD]
    · have hc' : ¬ p0 ≤ k * q0 := fun g => hc (hr.mp g)
      simp only [e_run, e_seq, seq_nx, seq_rt, seq_none, e_skip, e_set, e_own, nxK_some, vK_some, oK_some, e_ret, rtK_some, e_if, ifK_some, e_fVar, e_bVar, va_val, vb_val, vb_own, vb_bor, at_0, at_S, set_0, set_S, e_K, e_f1, o1_some, e_f2, o2_some, e_and, and_t, and_f, and_b, e_or, or_b, e_tOf, to_b, e_tAnd, tand_b, e_tOr, tor_b, e_tNot, not_b, e_tYes, e_fIf, fif_b, e_nil, e_cons, cons_some, e_tup, tup_some, e_lst, lst_some, e_call, call_some, e_m1, e_m2, e_sSeq, seqs_l, seqs_t, seqs_s, e_for, for_some, e_asg, tg_some, e_gN, e_gT2, e_gT3, e_frz, frz_own, e_retOwn, ch_b, e_lc, co_some, lc_some, wipe_nil, wipe_cons, end_rt, end_nx, pt_none, pt_some, int_some, e_cut, cut_l, cut_t, e_app, e_sRng, pad_0, sl_f, sl_t, sl_nil, add_i, sub_i, lt_i, le_i, gt_i, ge_i, neg_i, not_d, len_l, len_t, ix_l, ix_t, max2_i, min2_i, tup_l, tup_t, lst_l, lst_t, rev_l, rev_t, bool_i, bool_b, int_b, isn_n, e_chain, e_par, e_m3, List.length_cons, List.length_nil, List.replicate, List.cons_append, List.nil_append, Option.map_some, Nat.reduceAdd, Nat.reduceSub, Nat.zero_add, if_true, if_false, ite_true, ite_false, Bool.false_eq_true, reduceCtorEq, decide_true, decide_false, not_true, not_false_iff, Bool.not_true, Bool.not_false, Bool.and_true, Bool.true_and, Bool.and_false, Bool.false_and, Bool.or_true, Bool.true_or, Bool.or_false, Bool.false_or, Mi.mf_shares, Mi.G_shares, one_one, at_one0, at_one1, at_two0, at_two1, hm, hc', hc]
      rfl
  | n + 1, .tie ps, p, q, h, hd, hp, hq, hb => by
    obtain ⟨h2, _⟩ := tie_ok h.ok
    have h8 := fit_len h
    obtain ⟨p0, q0, e, k1, k2, k3, k4⟩ := low_form hp hq
    have hq64 : q < 1000000000000 := by
      have := pow_mono (a := 0) hq (Nat.zero_le _) hb
      simpa using this
    have hc : compL (gN 3) tYes (fCall Mi.m_greatest [fVar 3]) [.val (.tuple (Cd.ds ps)), .val (lowD p q), .no, .no, .no, .no, .no, .no] (Cd.ds ps) = some ((grs ps).map .int) := by
      rw [Cd.ds_map, compL_of (g := fun c => .int (gr c)) fun c hc => ⟨_, rfl, by simp only [e_run, e_seq, seq_nx, seq_rt, seq_none, e_skip, e_set, e_own, nxK_some, vK_some, oK_some, e_ret, rtK_some, e_if, ifK_some, e_fVar, e_bVar, va_val, vb_val, vb_own, vb_bor, at_0, at_S, set_0, set_S, e_K, e_f1, o1_some, e_f2, o2_some, e_and, and_t, and_f, and_b, e_or, or_b, e_tOf, to_b, e_tAnd, tand_b, e_tOr, tor_b, e_tNot, not_b, e_tYes, e_fIf, fif_b, e_nil, e_cons, cons_some, e_tup, tup_some, e_lst, lst_some, e_call, call_some, e_m1, e_m2, e_sSeq, seqs_l, seqs_t, seqs_s, e_for, for_some, e_asg, tg_some, e_gN, e_gT2, e_gT3, e_frz, frz_own, e_retOwn, ch_b, e_lc, co_some, lc_some, wipe_nil, wipe_cons, end_rt, end_nx, pt_none, pt_some, int_some, e_cut, cut_l, cut_t, e_app, e_sRng, pad_0, sl_f, sl_t, sl_nil, add_i, sub_i, lt_i, le_i, gt_i, ge_i, neg_i, not_d, len_l, len_t, ix_l, ix_t, max2_i, min2_i, tup_l, tup_t, lst_l, lst_t, rev_l, rev_t, bool_i, bool_b, int_b, isn_n, e_chain, e_par, e_m3, List.length_cons, List.length_nil, List.replicate, List.cons_append, List.nil_append, Option.map_some, Nat.reduceAdd, Nat.reduceSub, Nat.zero_add, if_true, if_false, ite_true, ite_false, Bool.false_eq_true, reduceCtorEq, decide_true, decide_false, not_true, not_false_iff, Bool.not_true, Bool.not_false, Bool.and_true, Bool.true_and, Bool.and_false, Bool.false_and, Bool.or_true, Bool.true_or, Bool.or_false, Bool.false_or, greatest_fit (part_fit h hc)]⟩, grs_map, List.map_map]
      rfl
    have hf : fitsL ((grs ps).map PyData.int).length = true := fitsL_small (by rw [List.length_map, grs_len]; omega)
    have hs := sort_ints (ns := grs ps) (by rw [grs_len]; omega)
    have hr : revD (.list (((grs ps).mergeSort fun a b => decide (a ≤ b)).map .int)) = some (.list ((desc (grs ps)).map .int)) := by
      show some (PyData.list _) = _
      rw [← List.map_reverse]; rfl
    have hn := comp_good (p := p) (q := q) (tg := gT2 5 6) (t := tOf (f2 leD (f2 ixD (bVar 1) (fK (.int 0))) (f2 mulD (f2 mulD (f2 addD (bVar 5) (fK (.int 1))) (bVar 6)) (f2 ixD (bVar 1) (fK (.int 1)))))) (e := f2 addD (bVar 5) (fK (.int 1)))
      (ρ := [.val (.tuple (Cd.ds ps)), .val (lowD p q), .val (.list ((desc (grs ps)).map .int)), .no, .no, .no, .no, .no]) (ns := desc (grs ps)) (k := 0) fun j n hj => by
        rw [desc_len, grs_len] at hj
        have r := ratio_le (x := ((j : Int) + 1) * n) k2 hq k4
        have c1 : ((j + 1 : Nat) : Int) = (j : Int) + 1 := by omega
        refine ⟨_, rfl, ?_, by simp only [e_run, e_seq, seq_nx, seq_rt, seq_none, e_skip, e_set, e_own, nxK_some, vK_some, oK_some, e_ret, rtK_some, e_if, ifK_some, e_fVar, e_bVar, va_val, vb_val, vb_own, vb_bor, at_0, at_S, set_0, set_S, e_K, e_f1, o1_some, e_f2, o2_some, e_and, and_t, and_f, and_b, e_or, or_b, e_tOf, to_b, e_tAnd, tand_b, e_tOr, tor_b, e_tNot, not_b, e_tYes, e_fIf, fif_b, e_nil, e_cons, cons_some, e_tup, tup_some, e_lst, lst_some, e_call, call_some, e_m1, e_m2, e_sSeq, seqs_l, seqs_t, seqs_s, e_for, for_some, e_asg, tg_some, e_gN, e_gT2, e_gT3, e_frz, frz_own, e_retOwn, ch_b, e_lc, co_some, lc_some, wipe_nil, wipe_cons, end_rt, end_nx, pt_none, pt_some, int_some, e_cut, cut_l, cut_t, e_app, e_sRng, pad_0, sl_f, sl_t, sl_nil, add_i, sub_i, lt_i, le_i, gt_i, ge_i, neg_i, not_d, len_l, len_t, ix_l, ix_t, max2_i, min2_i, tup_l, tup_t, lst_l, lst_t, rev_l, rev_t, bool_i, bool_b, int_b, isn_n, e_chain, e_par, e_m3, List.length_cons, List.length_nil, List.replicate, List.cons_append, List.nil_append, Option.map_some, Nat.reduceAdd, Nat.reduceSub, Nat.zero_add, if_true, if_false, ite_true, ite_false, Bool.false_eq_true, reduceCtorEq, decide_true, decide_false, not_true, not_false_iff, Bool.not_true, Bool.not_false, Bool.and_true, Bool.true_and, Bool.and_false, Bool.false_and, Bool.or_true, Bool.true_or, Bool.or_false, Bool.false_or]; rw [c1]⟩
        rw [e, c1]
        simp only [ldD]
        simp only [e_run, e_seq, seq_nx, seq_rt, seq_none, e_skip, e_set, e_own, nxK_some, vK_some, oK_some, e_ret, rtK_some, e_if, ifK_some, e_fVar, e_bVar, va_val, vb_val, vb_own, vb_bor, at_0, at_S, set_0, set_S, e_K, e_f1, o1_some, e_f2, o2_some, e_and, and_t, and_f, and_b, e_or, or_b, e_tOf, to_b, e_tAnd, tand_b, e_tOr, tor_b, e_tNot, not_b, e_tYes, e_fIf, fif_b, e_nil, e_cons, cons_some, e_tup, tup_some, e_lst, lst_some, e_call, call_some, e_m1, e_m2, e_sSeq, seqs_l, seqs_t, seqs_s, e_for, for_some, e_asg, tg_some, e_gN, e_gT2, e_gT3, e_frz, frz_own, e_retOwn, ch_b, e_lc, co_some, lc_some, wipe_nil, wipe_cons, end_rt, end_nx, pt_none, pt_some, int_some, e_cut, cut_l, cut_t, e_app, e_sRng, pad_0, sl_f, sl_t, sl_nil, add_i, sub_i, lt_i, le_i, gt_i, ge_i, neg_i, not_d, len_l, len_t, ix_l, ix_t, max2_i, min2_i, tup_l, tup_t, lst_l, lst_t, rev_l, rev_t, bool_i, bool_b, int_b, isn_n, e_chain, e_par, e_m3, List.length_cons, List.length_nil, List.replicate, List.cons_append, List.nil_append, Option.map_some, Nat.reduceAdd, Nat.reduceSub, Nat.zero_add, if_true, if_false, ite_true, ite_false, Bool.false_eq_true, reduceCtorEq, decide_true, decide_false, not_true, not_false_iff, Bool.not_true, Bool.not_false, Bool.and_true, Bool.true_and, Bool.and_false, Bool.false_and, Bool.or_true, Bool.true_or, Bool.or_false, Bool.false_or, mul_ok (a := (j : Int) + 1) (b := n) (Or.inl (by omega)), mul_ok (a := ((j : Int) + 1) * n) (b := q0) (Or.inr (by omega)), at_two0, at_two1]
        simp only [r]
    rw [goodL_desc (Int.le_of_lt hq)] at hn
    have hf2 : fitsL ((goods p q (grs ps)).map fun (i : Nat) => PyData.int i).length = true := fitsL_small (by rw [List.length_map]; have := goods_len p q (grs ps); rw [grs_len] at this; omega)
    have hne : neD (.list ((goods p q (grs ps)).map fun (i : Nat) => PyData.int i)) (.list []) = some (.bool (!(goods p q (grs ps)).isEmpty)) := by
      rw [ne_nil (noDicts_of fun d hd => by obtain ⟨i, _, rfl⟩ := List.mem_map.mp hd; rfl), List.isEmpty_map]
    have nd := tie_nd h
    have nl := nmss_len h
    obtain ⟨ρ', hfor, c, rfl⟩ := forL_map (enc := Cd.d) (tg := gN 3) (body := Mi.B_shares_1 (Mi.mf_shares n) Mi.m_parted_by) (full := ps) (xs := ps) (pre := [])
      (ρ := [.val (.tuple (Cd.ds ps)), .val (lowD p q), .val (.list ((desc (grs ps)).map .int)), .no, .val (.list ((goods p q (grs ps)).map fun (i : Nat) => PyData.int i)), .no, .no, .own (.dict [])])
      (I := fun qs ρ => ∃ c, ρ = [.val (.tuple (Cd.ds ps)), .val (lowD p q), .val (.list ((desc (grs ps)).map .int)), c, .val (.list ((goods p q (grs ps)).map fun (i : Nat) => PyData.int i)), .no, .no,
        .own (dS (if mx p q (grs ps) = 0 then [] else shR p (shss p (q * mx p q (grs ps)) qs)))]) rfl ⟨.no, by by_cases hm : mx p q (grs ps) = 0 <;> simp [hm, dS, kv, shR, shss]⟩ fun qs a rs ρ e2 ⟨c, hρ⟩ => by
        subst hρ
        by_cases hg : goods p q (grs ps) = []
        · have hm := mx_nil hg
          have hne0 : neD (.list (([] : List Nat).map fun (i : Nat) => PyData.int i)) (.list []) = some (.bool false) := rfl
          refine ⟨_, _, rfl, ?_, .val a.d, rfl⟩
          simp only [e_run, e_seq, seq_nx, seq_rt, seq_none, e_skip, e_set, e_own, nxK_some, vK_some, oK_some, e_ret, rtK_some, e_if, ifK_some, e_fVar, e_bVar, va_val, vb_val, vb_own, vb_bor, at_0, at_S, set_0, set_S, e_K, e_f1, o1_some, e_f2, o2_some, e_and, and_t, and_f, and_b, e_or, or_b, e_tOf, to_b, e_tAnd, tand_b, e_tOr, tor_b, e_tNot, not_b, e_tYes, e_fIf, fif_b, e_nil, e_cons, cons_some, e_tup, tup_some, e_lst, lst_some, e_call, call_some, e_m1, e_m2, e_sSeq, seqs_l, seqs_t, seqs_s, e_for, for_some, e_asg, tg_some, e_gN, e_gT2, e_gT3, e_frz, frz_own, e_retOwn, ch_b, e_lc, co_some, lc_some, wipe_nil, wipe_cons, end_rt, end_nx, pt_none, pt_some, int_some, e_cut, cut_l, cut_t, e_app, e_sRng, pad_0, sl_f, sl_t, sl_nil, add_i, sub_i, lt_i, le_i, gt_i, ge_i, neg_i, not_d, len_l, len_t, ix_l, ix_t, max2_i, min2_i, tup_l, tup_t, lst_l, lst_t, rev_l, rev_t, bool_i, bool_b, int_b, isn_n, e_chain, e_par, e_m3, List.length_cons, List.length_nil, List.replicate, List.cons_append, List.nil_append, Option.map_some, Nat.reduceAdd, Nat.reduceSub, Nat.zero_add, if_true, if_false, ite_true, ite_false, Bool.false_eq_true, reduceCtorEq, decide_true, decide_false, not_true, not_false_iff, Bool.not_true, Bool.not_false, Bool.and_true, Bool.true_and, Bool.and_false, Bool.false_and, Bool.or_true, Bool.true_or, Bool.or_false, Bool.false_or, Mi.B_shares_1, hg, hne0, hm]
        · obtain ⟨g1, g2⟩ := mx_last hg
          have hm : mx p q (grs ps) ≠ 0 := by omega
          have hm8 : mx p q (grs ps) ≤ 8 := by have := mx_le p q (grs ps); rw [grs_len] at this; omega
          have he : (goods p q (grs ps)).isEmpty = false := by simpa using hg
          have ha : a ∈ ps := by rw [e2]; simp
          obtain ⟨b1, b2⟩ := pow8 (n := Cd.dps ps) hq hm8 (by simpa only [Cd.dp] using hb)
          have hqm : 0 < q * (mx p q (grs ps) : Int) := Int.mul_pos hq (by omega)
          have hl : L2.atI ((goods p q (grs ps)).map fun (i : Nat) => PyData.int i) (-1) = some (.int (mx p q (grs ps))) := at_last (by rw [List.getLast?_map, g1]; rfl)
          have hpt := parted_low (m := mx p q (grs ps)) hp hq b2 g2 (by omega)
          have hsh := shares_ok n a p (q * mx p q (grs ps)) (part_fit h ha) (dp_part ha hd) hp hqm (pow_mono hqm (Cd.le_dps ha) b1)
          have hsub : (shss p (q * mx p q (grs ps)) (qs ++ [a])).map (·.1) |>.Sublist (nmss ps) := (shss_sub _ _ _).trans (by rw [e2, nmss_app, nmss_app]; exact List.Sublist.append (List.Sublist.refl _) (by
            simp only [nmss, Cd.sss, List.append_nil, List.map_append]; exact List.sublist_append_left _ _))
          have eapp : shR p (shss p (q * mx p q (grs ps)) qs) ++ shR p (shs p (q * mx p q (grs ps)) a) = shR p (shss p (q * mx p q (grs ps)) (qs ++ [a])) := by
            simp [shR, shss_app, shss]
          refine ⟨_, _, rfl, ?_, .val a.d, rfl⟩
          simp only [hm, if_false]
          simp only [e_run, e_seq, seq_nx, seq_rt, seq_none, e_skip, e_set, e_own, nxK_some, vK_some, oK_some, e_ret, rtK_some, e_if, ifK_some, e_fVar, e_bVar, va_val, vb_val, vb_own, vb_bor, at_0, at_S, set_0, set_S, e_K, e_f1, o1_some, e_f2, o2_some, e_and, and_t, and_f, and_b, e_or, or_b, e_tOf, to_b, e_tAnd, tand_b, e_tOr, tor_b, e_tNot, not_b, e_tYes, e_fIf, fif_b, e_nil, e_cons, cons_some, e_tup, tup_some, e_lst, lst_some, e_call, call_some, e_m1, e_m2, e_sSeq, seqs_l, seqs_t, seqs_s, e_for, for_some, e_asg, tg_some, e_gN, e_gT2, e_gT3, e_frz, frz_own, e_retOwn, ch_b, e_lc, co_some, lc_some, wipe_nil, wipe_cons, end_rt, end_nx, pt_none, pt_some, int_some, e_cut, cut_l, cut_t, e_app, e_sRng, pad_0, sl_f, sl_t, sl_nil, add_i, sub_i, lt_i, le_i, gt_i, ge_i, neg_i, not_d, len_l, len_t, ix_l, ix_t, max2_i, min2_i, tup_l, tup_t, lst_l, lst_t, rev_l, rev_t, bool_i, bool_b, int_b, isn_n, e_chain, e_par, e_m3, List.length_cons, List.length_nil, List.replicate, List.cons_append, List.nil_append, Option.map_some, Nat.reduceAdd, Nat.reduceSub, Nat.zero_add, if_true, if_false, ite_true, ite_false, Bool.false_eq_true, reduceCtorEq, decide_true, decide_false, not_true, not_false_iff, Bool.not_true, Bool.not_false, Bool.and_true, Bool.true_and, Bool.and_false, Bool.false_and, Bool.or_true, Bool.true_or, Bool.or_false, Bool.false_or, Mi.B_shares_1, hne, he]
          rw [upd_ok (l := shR p (shss p (q * mx p q (grs ps)) qs)) (m := shR p (shs p (q * mx p q (grs ps)) a)) rfl (by simp only [e_run, e_seq, seq_nx, seq_rt, seq_none, e_skip, e_set, e_own, nxK_some, vK_some, oK_some, e_ret, rtK_some, e_if, ifK_some, e_fVar, e_bVar, va_val, vb_val, vb_own, vb_bor, at_0, at_S, set_0, set_S, e_K, e_f1, o1_some, e_f2, o2_some, e_and, and_t, and_f, and_b, e_or, or_b, e_tOf, to_b, e_tAnd, tand_b, e_tOr, tor_b, e_tNot, not_b, e_tYes, e_fIf, fif_b, e_nil, e_cons, cons_some, e_tup, tup_some, e_lst, lst_some, e_call, call_some, e_m1, e_m2, e_sSeq, seqs_l, seqs_t, seqs_s, e_for, for_some, e_asg, tg_some, e_gN, e_gT2, e_gT3, e_frz, frz_own, e_retOwn, ch_b, e_lc, co_some, lc_some, wipe_nil, wipe_cons, end_rt, end_nx, pt_none, pt_some, int_some, e_cut, cut_l, cut_t, e_app, e_sRng, pad_0, sl_f, sl_t, sl_nil, add_i, sub_i, lt_i, le_i, gt_i, ge_i, neg_i, not_d, len_l, len_t, ix_l, ix_t, max2_i, min2_i, tup_l, tup_t, lst_l, lst_t, rev_l, rev_t, bool_i, bool_b, int_b, isn_n, e_chain, e_par, e_m3, List.length_cons, List.length_nil, List.replicate, List.cons_append, List.nil_append, Option.map_some, Nat.reduceAdd, Nat.reduceSub, Nat.zero_add, if_true, if_false, ite_true, ite_false, Bool.false_eq_true, reduceCtorEq, decide_true, decide_false, not_true, not_false_iff, Bool.not_true, Bool.not_false, Bool.and_true, Bool.true_and, Bool.and_false, Bool.false_and, Bool.or_true, Bool.true_or, Bool.or_false, Bool.false_or, hl, hpt, hsh, ix_0]) (by rw [eapp, shR_names]; exact hsub.nodup nd) (by
            have := hsub.length_le
            rw [eapp]
            rw [List.length_map] at this
            unfold shR
            rw [List.length_map]
            exact Nat.lt_of_le_of_lt (Nat.le_trans this nl) (by decide)), eapp]
          simp only [e_run, e_seq, seq_nx, seq_rt, seq_none, e_skip, e_set, e_own, nxK_some, vK_some, oK_some, e_ret, rtK_some, e_if, ifK_some, e_fVar, e_bVar, va_val, vb_val, vb_own, vb_bor, at_0, at_S, set_0, set_S, e_K, e_f1, o1_some, e_f2, o2_some, e_and, and_t, and_f, and_b, e_or, or_b, e_tOf, to_b, e_tAnd, tand_b, e_tOr, tor_b, e_tNot, not_b, e_tYes, e_fIf, fif_b, e_nil, e_cons, cons_some, e_tup, tup_some, e_lst, lst_some, e_call, call_some, e_m1, e_m2, e_sSeq, seqs_l, seqs_t, seqs_s, e_for, for_some, e_asg, tg_some, e_gN, e_gT2, e_gT3, e_frz, frz_own, e_retOwn, ch_b, e_lc, co_some, lc_some, wipe_nil, wipe_cons, end_rt, end_nx, pt_none, pt_some, int_some, e_cut, cut_l, cut_t, e_app, e_sRng, pad_0, sl_f, sl_t, sl_nil, add_i, sub_i, lt_i, le_i, gt_i, ge_i, neg_i, not_d, len_l, len_t, ix_l, ix_t, max2_i, min2_i, tup_l, tup_t, lst_l, lst_t, rev_l, rev_t, bool_i, bool_b, int_b, isn_n, e_chain, e_par, e_m3, List.length_cons, List.length_nil, List.replicate, List.cons_append, List.nil_append, Option.map_some, Nat.reduceAdd, Nat.reduceSub, Nat.zero_add, if_true, if_false, ite_true, ite_false, Bool.false_eq_true, reduceCtorEq, decide_true, decide_false, not_true, not_false_iff, Bool.not_true, Bool.not_false, Bool.and_true, Bool.true_and, Bool.and_false, Bool.false_and, Bool.or_true, Bool.true_or, Bool.or_false, Bool.false_or]
    rw [← Cd.ds_map] at hfor
    simp only [Cd.d, shs]
    simp only [e_run, e_seq, seq_nx, seq_rt, seq_none, e_skip, e_set, e_own, nxK_some, vK_some, oK_some, e_ret, rtK_some, e_if, ifK_some, e_fVar, e_bVar, va_val, vb_val, vb_own, vb_bor, at_0, at_S, set_0, set_S, e_K, e_f1, o1_some, e_f2, o2_some, e_and, and_t, and_f, and_b, e_or, or_b, e_tOf, to_b, e_tAnd, tand_b, e_tOr, tor_b, e_tNot, not_b, e_tYes, e_fIf, fif_b, e_nil, e_cons, cons_some, e_tup, tup_some, e_lst, lst_some, e_call, call_some, e_m1, e_m2, e_sSeq, seqs_l, seqs_t, seqs_s, e_for, for_some, e_asg, tg_some, e_gN, e_gT2, e_gT3, e_frz, frz_own, e_retOwn, ch_b, e_lc, co_some, lc_some, wipe_nil, wipe_cons, end_rt, end_nx, pt_none, pt_some, int_some, e_cut, cut_l, cut_t, e_app, e_sRng, pad_0, sl_f, sl_t, sl_nil, add_i, sub_i, lt_i, le_i, gt_i, ge_i, neg_i, not_d, len_l, len_t, ix_l, ix_t, max2_i, min2_i, tup_l, tup_t, lst_l, lst_t, rev_l, rev_t, bool_i, bool_b, int_b, isn_n, e_chain, e_par, e_m3, List.length_cons, List.length_nil, List.replicate, List.cons_append, List.nil_append, Option.map_some, Nat.reduceAdd, Nat.reduceSub, Nat.zero_add, if_true, if_false, ite_true, ite_false, Bool.false_eq_true, reduceCtorEq, decide_true, decide_false, not_true, not_false_iff, Bool.not_true, Bool.not_false, Bool.and_true, Bool.true_and, Bool.and_false, Bool.false_and, Bool.or_true, Bool.true_or, Bool.or_false, Bool.false_or, Mi.mf_shares, Mi.G_shares, one_tie h2, hc, hf, hs, hr, e_enum, en_l, hn, hf2, hfor]
    by_cases hm : mx p q (grs ps) = 0
    · simp [hm, shR]
    · simp [hm]
theorem shares_fit {c : Cd} {p q : Int} (h : Fit c) (hp : 0 ≤ p) (hq : 0 < q) (hb : q < 10000) : Mi.m_shares [c.d, lowD p q] = some (dS (shR p (shs p q c))) := by
  have hd := fit_dp h
  refine shares_ok 24 c p q h (by omega) hp hq (pow_mono hq hd ?_)
  have : (8 : Int) ^ 7 = 2097152 := by decide
  omega
end Fact
set_option maxRecDepth 100000
/-! Who bears too much, by the program and by the law. -/
namespace Fact
open PySem Pu
theorem any_map {α : Type} (f : α → Bool) (xs : List α) : anyD (.list (xs.map fun x => .bool (f x))) = some (.bool (xs.any f)) := by
  show (boolsL _).map _ = _
  rw [show (xs.map fun x => PyData.bool (f x)) = (xs.map f).map .bool by simp, boolsL_map]
  simp [List.any_map]
theorem holding_ok {c : Cd} {p q : Int} (h : Fit c) (hp : 0 ≤ p) (hq : 0 < q) (hb : q < 10000) : Mi.m_holding [c.d, lowD p q] = some (.tuple (stL (ssort ((shs p q c).map (·.1))))) := by
  have hl : (shR p (shs p q c)).length ≤ 16777216 := by
    have := (shs_sub c p q).length_le
    have h2 := h.len
    unfold nms at this
    rw [List.length_map, List.length_map] at this
    unfold shR
    rw [List.length_map]
    omega
  have hs := sort_dS hl
  rw [shR_names] at hs
  simp only [e_run, e_seq, seq_nx, seq_rt, seq_none, e_skip, e_set, e_own, nxK_some, vK_some, oK_some, e_ret, rtK_some, e_if, ifK_some, e_fVar, e_bVar, va_val, vb_val, vb_own, vb_bor, at_0, at_S, set_0, set_S, e_K, e_f1, o1_some, e_f2, o2_some, e_and, and_t, and_f, and_b, e_or, or_b, e_tOf, to_b, e_tAnd, tand_b, e_tOr, tor_b, e_tNot, not_b, e_tYes, e_fIf, fif_b, e_nil, e_cons, cons_some, e_tup, tup_some, e_lst, lst_some, e_call, call_some, e_m1, e_m2, e_sSeq, seqs_l, seqs_t, seqs_s, e_for, for_some, e_asg, tg_some, e_gN, e_gT2, e_gT3, e_frz, frz_own, e_retOwn, ch_b, e_lc, co_some, lc_some, wipe_nil, wipe_cons, end_rt, end_nx, pt_none, pt_some, int_some, e_cut, cut_l, cut_t, e_app, e_sRng, pad_0, sl_f, sl_t, sl_nil, add_i, sub_i, lt_i, le_i, gt_i, ge_i, neg_i, not_d, len_l, len_t, ix_l, ix_t, max2_i, min2_i, tup_l, tup_t, lst_l, lst_t, rev_l, rev_t, bool_i, bool_b, int_b, isn_n, e_chain, e_par, e_m3, List.length_cons, List.length_nil, List.replicate, List.cons_append, List.nil_append, Option.map_some, Nat.reduceAdd, Nat.reduceSub, Nat.zero_add, if_true, if_false, ite_true, ite_false, Bool.false_eq_true, reduceCtorEq, decide_true, decide_false, not_true, not_false_iff, Bool.not_true, Bool.not_false, Bool.and_true, Bool.true_and, Bool.and_false, Bool.false_and, Bool.or_true, Bool.true_or, Bool.or_false, Bool.false_or, Mi.m_holding, Mi.G_holding, shares_fit h hp hq hb, hs]
theorem low_alike (p q p' q' : Int) : PySem.W.alike (lowD p q) (lowD p' q') = true := rfl
theorem low_noDict (p q : Int) : noDict (lowD p q) = true := rfl
theorem low_depth (p q : Int) : (lowD p q).depth ≤ 49 := by simp [lowD, ldD, PyData.depth, PyData.depthAll]
theorem bears_ok {c : Cd} {p q : Int} (h : Fit c) (hp : 0 ≤ p) (hq : 0 < q) (hb : q < 10000) : Mi.m_bears [c.d, lowD p q] = some (.list ((rsort (shR p (shs p q c))).map rowD)) := by
  have hl : (shR p (shs p q c)).length ≤ 16777216 := by
    have := (shs_sub c p q).length_le
    have h2 := h.len
    unfold nms at this
    rw [List.length_map, List.length_map] at this
    unfold shR
    rw [List.length_map]
    omega
  have hs := sort_items (l := shR p (shs p q c)) (by rw [shR_names]; exact (shs_sub c p q).nodup h.nd) (fun a ha b hb => by
    obtain ⟨x, _, rfl⟩ := List.mem_map.mp ha
    obtain ⟨y, _, rfl⟩ := List.mem_map.mp hb
    exact low_alike _ _ _ _) (fun a ha => by obtain ⟨x, _, rfl⟩ := List.mem_map.mp ha; exact low_noDict _ _) (fun a ha => by obtain ⟨x, _, rfl⟩ := List.mem_map.mp ha; exact low_depth _ _) hl
  simp only [e_run, e_seq, seq_nx, seq_rt, seq_none, e_skip, e_set, e_own, nxK_some, vK_some, oK_some, e_ret, rtK_some, e_if, ifK_some, e_fVar, e_bVar, va_val, vb_val, vb_own, vb_bor, at_0, at_S, set_0, set_S, e_K, e_f1, o1_some, e_f2, o2_some, e_and, and_t, and_f, and_b, e_or, or_b, e_tOf, to_b, e_tAnd, tand_b, e_tOr, tor_b, e_tNot, not_b, e_tYes, e_fIf, fif_b, e_nil, e_cons, cons_some, e_tup, tup_some, e_lst, lst_some, e_call, call_some, e_m1, e_m2, e_sSeq, seqs_l, seqs_t, seqs_s, e_for, for_some, e_asg, tg_some, e_gN, e_gT2, e_gT3, e_frz, frz_own, e_retOwn, ch_b, e_lc, co_some, lc_some, wipe_nil, wipe_cons, end_rt, end_nx, pt_none, pt_some, int_some, e_cut, cut_l, cut_t, e_app, e_sRng, pad_0, sl_f, sl_t, sl_nil, add_i, sub_i, lt_i, le_i, gt_i, ge_i, neg_i, not_d, len_l, len_t, ix_l, ix_t, max2_i, min2_i, tup_l, tup_t, lst_l, lst_t, rev_l, rev_t, bool_i, bool_b, int_b, isn_n, e_chain, e_par, e_m3, List.length_cons, List.length_nil, List.replicate, List.cons_append, List.nil_append, Option.map_some, Nat.reduceAdd, Nat.reduceSub, Nat.zero_add, if_true, if_false, ite_true, ite_false, Bool.false_eq_true, reduceCtorEq, decide_true, decide_false, not_true, not_false_iff, Bool.not_true, Bool.not_false, Bool.and_true, Bool.true_and, Bool.and_false, Bool.false_and, Bool.or_true, Bool.true_or, Bool.or_false, Bool.false_or, Mi.m_bears, Mi.G_bears, shares_fit h hp hq hb, hs]
/-! ### who bears too much -/
theorem cnts_sub (S : Lot) (cs : List Cd) : ((cnts S cs).map (·.1)).Sublist (nmss cs) := by
  have e : (cnts S cs).map (·.1) = ((cnts S cs).map fun t => (t.1, t.2.1)).map (·.1) := by rw [List.map_map]; rfl
  rw [e, cnts_names]
  exact List.filter_sublist.map _
theorem cnt_sub (S : Lot) (c : Cd) : ((cnt S c).map (·.1)).Sublist (nms c) := by
  have e : (cnt S c).map (·.1) = ((cnt S c).map fun t => (t.1, t.2.1)).map (·.1) := by rw [List.map_map]; rfl
  rw [e, cnt_names]
  exact List.filter_sublist.map _
theorem cnts_filter (S : Lot) : ∀ ps : List Cd, cnts S (ps.filter (alive S)) = cnts S ps
  | [] => rfl
  | c :: cs => by
    cases h : alive S c with
    | true => rw [List.filter_cons_of_pos h]; simp only [cnts, cnts_filter S cs]
    | false =>
      have : cnt S c = [] := by
        cases e : cnt S c with
        | nil => rfl
        | cons t r => have := cnt_ne.mp (show cnt S c ≠ [] by rw [e]; simp); rw [h] at this; cases this
      rw [List.filter_cons_of_neg (by simp [h])]
      simp only [cnts, cnts_filter S cs, this, List.nil_append]
def notS (bs : List Str) : Lot := fun x => !bs.contains x
def bR (p q : Int) (l : List Ct) : Rows := l.map fun t => (t.1, lowD p (q * t.2.2))
theorem bR_names (p q : Int) (l : List Ct) : (bR p q l).map (·.1) = l.map (·.1) := by simp [bR]
theorem cnts_app (S : Lot) (a b : List Cd) : cnts S (a ++ b) = cnts S a ++ cnts S b := by simp [cnts_flat]
theorem live_le (S : Lot) (ps : List Cd) : live S ps ≤ ps.length := List.length_filter_le _ _
theorem nmss_filter (f : Cd → Bool) (ps : List Cd) : (nmss (ps.filter f)).Sublist (nmss ps) := by
  induction ps with
  | nil => exact List.Sublist.refl _
  | cons a r ih =>
    have e : ∀ cs : List Cd, nmss (a :: cs) = nms a ++ nmss cs := fun cs => by simp [nmss, nms, Cd.sss]
    cases h : f a with
    | true => rw [List.filter_cons_of_pos h, e, e]; exact List.Sublist.append (List.Sublist.refl _) ih
    | false => rw [List.filter_cons_of_neg (by simp [h]), e]; exact ih.trans (List.sublist_append_right _ _)
theorem borne_ok : ∀ (n : Nat) (c : Cd) (p q : Int) (bs : List Str), Fit c → c.dp < n → 0 ≤ p → 0 < q → q * 8 ^ c.dp < 1000000000000 → Mi.mf_borne n [c.d, lowD p q, .list (stL bs)] = some (dS (bR p q (cnt (notS bs) c)))
  | 0, c, _, _, _, _, h, _, _, _ => absurd h (Nat.not_lt_zero _)
  | n + 1, .one x k, p, q, bs, _, _, hp, hq, hb => by
    simp only [Cd.d, cnt, notS]
    by_cases hc : bs.contains x = true
    · simp only [e_run, e_seq, seq_nx, seq_rt, seq_none, e_skip, e_set, e_own, nxK_some, vK_some, oK_some, e_ret, rtK_some, e_if, ifK_some, e_fVar, e_bVar, va_val, vb_val, vb_own, vb_bor, at_0, at_S, set_0, set_S, e_K, e_f1, o1_some, e_f2, o2_some, e_and, and_t, and_f, and_b, e_or, or_b, e_tOf, to_b, e_tAnd, tand_b, e_tOr, tor_b, e_tNot, not_b, e_tYes, e_fIf, fif_b, e_nil, e_cons, cons_some, e_tup, tup_some, e_lst, lst_some, e_call, call_some, e_m1, e_m2, e_sSeq, seqs_l, seqs_t, seqs_s, e_for, for_some, e_asg, tg_some, e_gN, e_gT2, e_gT3, e_frz, frz_own, e_retOwn, ch_b, e_lc, co_some, lc_some, wipe_nil, wipe_cons, end_rt, end_nx, pt_none, pt_some, int_some, e_cut, cut_l, cut_t, e_app, e_sRng, pad_0, sl_f, sl_t, sl_nil, add_i, sub_i, lt_i, le_i, gt_i, ge_i, neg_i, not_d, len_l, len_t, ix_l, ix_t, max2_i, min2_i, tup_l, tup_t, lst_l, lst_t, rev_l, rev_t, bool_i, bool_b, int_b, isn_n, e_chain, e_par, e_m3, List.length_cons, List.length_nil, List.replicate, List.cons_append, List.nil_append, Option.map_some, Nat.reduceAdd, Nat.reduceSub, Nat.zero_add, if_true, if_false, ite_true, ite_false, Bool.false_eq_true, reduceCtorEq, decide_true, decide_false, not_true, not_false_iff, Bool.not_true, Bool.not_false, Bool.and_true, Bool.true_and, Bool.and_false, Bool.false_and, Bool.or_true, Bool.true_or, Bool.or_false, Bool.false_or, Mi.mf_borne, Mi.G_borne, one_one, at_one0, in_l, hc]
      rfl
    · rw [Bool.not_eq_true] at hc
      simp only [e_run, e_seq, seq_nx, seq_rt, seq_none, e_skip, e_set, e_own, nxK_some, vK_some, oK_some, e_ret, rtK_some, e_if, ifK_some, e_fVar, e_bVar, va_val, vb_val, vb_own, vb_bor, at_0, at_S, set_0, set_S, e_K, e_f1, o1_some, e_f2, o2_some, e_and, and_t, and_f, and_b, e_or, or_b, e_tOf, to_b, e_tAnd, tand_b, e_tOr, tor_b, e_tNot, not_b, e_tYes, e_fIf, fif_b, e_nil, e_cons, cons_some, e_tup, tup_some, e_lst, lst_some, e_call, call_some, e_m1, e_m2, e_sSeq, seqs_l, seqs_t, seqs_s, e_for, for_some, e_asg, tg_some, e_gN, e_gT2, e_gT3, e_frz, frz_own, e_retOwn, ch_b, e_lc, co_some, lc_some, wipe_nil, wipe_cons, end_rt, end_nx, pt_none, pt_some, int_some, e_cut, cut_l, cut_t, e_app, e_sRng, pad_0, sl_f, sl_t, sl_nil, add_i, sub_i, lt_i, le_i, gt_i, ge_i, neg_i, not_d, len_l, len_t, ix_l, ix_t, max2_i, min2_i, tup_l, tup_t, lst_l, lst_t, rev_l, rev_t, bool_i, bool_b, int_b, isn_n, e_chain, e_par, e_m3, List.length_cons, List.length_nil, List.replicate, List.cons_append, List.nil_append, Option.map_some, Nat.reduceAdd, Nat.reduceSub, Nat.zero_add, if_true, if_false, ite_true, ite_false, Bool.false_eq_true, reduceCtorEq, decide_true, decide_false, not_true, not_false_iff, Bool.not_true, Bool.not_false, Bool.and_true, Bool.true_and, Bool.and_false, Bool.false_and, Bool.or_true, Bool.true_or, Bool.or_false, Bool.false_or, Mi.mf_borne, Mi.G_borne, one_one, at_one0, in_l, hc, e_dict1, d1_s]
      simp [dS, kv, bR]
  | n + 1, .tie ps, p, q, bs, h, hd, hp, hq, hb => by
    obtain ⟨h2, _⟩ := tie_ok h.ok
    have h8 := fit_len h
    have hc : compL (gN 4) (tOf (fCall (m1 anyD) [fLc [5] (sSeq (fCall Mi.m_strands_of [fVar 4])) (gN 5) tYes (f2 notInD (f2 ixD (bVar 5) (fK (.int 0))) (bVar 2))])) (fVar 4) [.val (.tuple (Cd.ds ps)), .val (lowD p q), .bor (.list (stL bs)), .no, .no, .no, .no] (Cd.ds ps) = some ((ps.filter (alive (notS bs))).map Cd.d) := by
      rw [Cd.ds_map]
      refine compL_ofIf fun a ha => ?_
      have fa := part_fit h ha
      have hi : compL (gN 5) tYes (f2 notInD (f2 ixD (bVar 5) (fK (.int 0))) (bVar 2)) [.val (.tuple (ps.map Cd.d)), .val (lowD p q), .bor (.list (stL bs)), .no, .val a.d, .no, .no] (a.ss.map strD) = some (a.ss.map fun s => .bool (notS bs s.1)) := compL_of fun s _ => ⟨_, rfl, by
        simp only [strD]
        simp only [e_run, e_seq, seq_nx, seq_rt, seq_none, e_skip, e_set, e_own, nxK_some, vK_some, oK_some, e_ret, rtK_some, e_if, ifK_some, e_fVar, e_bVar, va_val, vb_val, vb_own, vb_bor, at_0, at_S, set_0, set_S, e_K, e_f1, o1_some, e_f2, o2_some, e_and, and_t, and_f, and_b, e_or, or_b, e_tOf, to_b, e_tAnd, tand_b, e_tOr, tor_b, e_tNot, not_b, e_tYes, e_fIf, fif_b, e_nil, e_cons, cons_some, e_tup, tup_some, e_lst, lst_some, e_call, call_some, e_m1, e_m2, e_sSeq, seqs_l, seqs_t, seqs_s, e_for, for_some, e_asg, tg_some, e_gN, e_gT2, e_gT3, e_frz, frz_own, e_retOwn, ch_b, e_lc, co_some, lc_some, wipe_nil, wipe_cons, end_rt, end_nx, pt_none, pt_some, int_some, e_cut, cut_l, cut_t, e_app, e_sRng, pad_0, sl_f, sl_t, sl_nil, add_i, sub_i, lt_i, le_i, gt_i, ge_i, neg_i, not_d, len_l, len_t, ix_l, ix_t, max2_i, min2_i, tup_l, tup_t, lst_l, lst_t, rev_l, rev_t, bool_i, bool_b, int_b, isn_n, e_chain, e_par, e_m3, List.length_cons, List.length_nil, List.replicate, List.cons_append, List.nil_append, Option.map_some, Nat.reduceAdd, Nat.reduceSub, Nat.zero_add, if_true, if_false, ite_true, ite_false, Bool.false_eq_true, reduceCtorEq, decide_true, decide_false, not_true, not_false_iff, Bool.not_true, Bool.not_false, Bool.and_true, Bool.true_and, Bool.and_false, Bool.false_and, Bool.or_true, Bool.true_or, Bool.or_false, Bool.false_or, at_one0, notin_l, notS]⟩
      have hf : fitsL (a.ss.map fun s => PyData.bool (notS bs s.1)).length = true := fitsL_small (by rw [List.length_map]; have := fa.len; omega)
      exact ⟨_, rfl, by simp only [e_run, e_seq, seq_nx, seq_rt, seq_none, e_skip, e_set, e_own, nxK_some, vK_some, oK_some, e_ret, rtK_some, e_if, ifK_some, e_fVar, e_bVar, va_val, vb_val, vb_own, vb_bor, at_0, at_S, set_0, set_S, e_K, e_f1, o1_some, e_f2, o2_some, e_and, and_t, and_f, and_b, e_or, or_b, e_tOf, to_b, e_tAnd, tand_b, e_tOr, tor_b, e_tNot, not_b, e_tYes, e_fIf, fif_b, e_nil, e_cons, cons_some, e_tup, tup_some, e_lst, lst_some, e_call, call_some, e_m1, e_m2, e_sSeq, seqs_l, seqs_t, seqs_s, e_for, for_some, e_asg, tg_some, e_gN, e_gT2, e_gT3, e_frz, frz_own, e_retOwn, ch_b, e_lc, co_some, lc_some, wipe_nil, wipe_cons, end_rt, end_nx, pt_none, pt_some, int_some, e_cut, cut_l, cut_t, e_app, e_sRng, pad_0, sl_f, sl_t, sl_nil, add_i, sub_i, lt_i, le_i, gt_i, ge_i, neg_i, not_d, len_l, len_t, ix_l, ix_t, max2_i, min2_i, tup_l, tup_t, lst_l, lst_t, rev_l, rev_t, bool_i, bool_b, int_b, isn_n, e_chain, e_par, e_m3, List.length_cons, List.length_nil, List.replicate, List.cons_append, List.nil_append, Option.map_some, Nat.reduceAdd, Nat.reduceSub, Nat.zero_add, if_true, if_false, ite_true, ite_false, Bool.false_eq_true, reduceCtorEq, decide_true, decide_false, not_true, not_false_iff, Bool.not_true, Bool.not_false, Bool.and_true, Bool.true_and, Bool.and_false, Bool.false_and, Bool.or_true, Bool.true_or, Bool.or_false, Bool.false_or, strands_fit fa, hi, hf, any_map]; rfl, fun _ => by simp only [e_run, e_seq, seq_nx, seq_rt, seq_none, e_skip, e_set, e_own, nxK_some, vK_some, oK_some, e_ret, rtK_some, e_if, ifK_some, e_fVar, e_bVar, va_val, vb_val, vb_own, vb_bor, at_0, at_S, set_0, set_S, e_K, e_f1, o1_some, e_f2, o2_some, e_and, and_t, and_f, and_b, e_or, or_b, e_tOf, to_b, e_tAnd, tand_b, e_tOr, tor_b, e_tNot, not_b, e_tYes, e_fIf, fif_b, e_nil, e_cons, cons_some, e_tup, tup_some, e_lst, lst_some, e_call, call_some, e_m1, e_m2, e_sSeq, seqs_l, seqs_t, seqs_s, e_for, for_some, e_asg, tg_some, e_gN, e_gT2, e_gT3, e_frz, frz_own, e_retOwn, ch_b, e_lc, co_some, lc_some, wipe_nil, wipe_cons, end_rt, end_nx, pt_none, pt_some, int_some, e_cut, cut_l, cut_t, e_app, e_sRng, pad_0, sl_f, sl_t, sl_nil, add_i, sub_i, lt_i, le_i, gt_i, ge_i, neg_i, not_d, len_l, len_t, ix_l, ix_t, max2_i, min2_i, tup_l, tup_t, lst_l, lst_t, rev_l, rev_t, bool_i, bool_b, int_b, isn_n, e_chain, e_par, e_m3, List.length_cons, List.length_nil, List.replicate, List.cons_append, List.nil_append, Option.map_some, Nat.reduceAdd, Nat.reduceSub, Nat.zero_add, if_true, if_false, ite_true, ite_false, Bool.false_eq_true, reduceCtorEq, decide_true, decide_false, not_true, not_false_iff, Bool.not_true, Bool.not_false, Bool.and_true, Bool.true_and, Bool.and_false, Bool.false_and, Bool.or_true, Bool.true_or, Bool.or_false, Bool.false_or]⟩
    have hf : fitsL ((ps.filter (alive (notS bs))).map Cd.d).length = true := fitsL_small (by rw [List.length_map]; have := live_le (notS bs) ps; unfold live at this; omega)
    have nd := tie_nd h
    have nl := nmss_len h
    have lv : live (notS bs) ps ≤ 8 := Nat.le_trans (live_le _ _) h8
    obtain ⟨ρ', hfor, c, rfl⟩ := forL_map (enc := Cd.d) (tg := gN 4) (body := Mi.B_borne_1 (Mi.mf_borne n) Mi.m_parted_by) (full := ps.filter (alive (notS bs))) (xs := ps.filter (alive (notS bs))) (pre := [])
      (ρ := [.val (.tuple (Cd.ds ps)), .val (lowD p q), .bor (.list (stL bs)), .val (.list ((ps.filter (alive (notS bs))).map Cd.d)), .no, .no, .own (.dict [])])
      (I := fun qs ρ => ∃ c, ρ = [.val (.tuple (Cd.ds ps)), .val (lowD p q), .bor (.list (stL bs)), .val (.list ((ps.filter (alive (notS bs))).map Cd.d)), c, .no,
        .own (dS (bR p (q * live (notS bs) ps) (cnts (notS bs) qs)))]) rfl ⟨.no, rfl⟩ fun qs a rs ρ e2 ⟨c, hρ⟩ => by
        subst hρ
        have ha' : a ∈ ps.filter (alive (notS bs)) := by rw [e2]; simp
        obtain ⟨ha, hal⟩ := List.mem_filter.mp ha'
        have l1 := live_pos ha hal
        obtain ⟨b1, b2⟩ := pow8 (n := Cd.dps ps) hq lv (by simpa only [Cd.dp] using hb)
        have hqm : 0 < q * (live (notS bs) ps : Int) := Int.mul_pos hq (by omega)
        have hpt := parted_low (m := live (notS bs) ps) hp hq b2 (by omega) (by omega)
        have hsh := borne_ok n a p (q * live (notS bs) ps) bs (part_fit h ha) (dp_part ha hd) hp hqm (pow_mono hqm (Cd.le_dps ha) b1)
        have hsub : (cnts (notS bs) (qs ++ [a])).map (·.1) |>.Sublist (nmss ps) := ((cnts_sub _ _).trans (by
          rw [e2, show qs ++ a :: rs = (qs ++ [a]) ++ rs by simp, nmss_app (qs ++ [a]) rs]; exact List.sublist_append_left _ _)).trans (nmss_filter _ _)
        have eapp : bR p (q * live (notS bs) ps) (cnts (notS bs) qs) ++ bR p (q * live (notS bs) ps) (cnt (notS bs) a) = bR p (q * live (notS bs) ps) (cnts (notS bs) (qs ++ [a])) := by
          simp [bR, cnts_app, cnts]
        refine ⟨_, _, rfl, ?_, .val a.d, rfl⟩
        have hlen : lenD (.list ((ps.filter (alive (notS bs))).map Cd.d)) = some (.int (live (notS bs) ps)) := by
          show some (PyData.int _) = _
          rw [List.length_map]; rfl
        rw [show Mi.B_borne_1 (Mi.mf_borne n) Mi.m_parted_by = gUpd 6 (fCall (Mi.mf_borne n) [fVar 4, fCall Mi.m_parted_by [fVar 1, fCall (m1 lenD) [bVar 3]], bVar 2]) from rfl]
        rw [upd_ok (l := bR p (q * live (notS bs) ps) (cnts (notS bs) qs)) (m := bR p (q * live (notS bs) ps) (cnt (notS bs) a)) rfl (by
          simp only [e_call, e_fVar, e_bVar, e_cons, e_nil, at_0, at_S, set_0, set_S, va_val, vb_val, vb_bor, cons_some, call_some, e_m1, hlen, hpt, hsh]) (by rw [eapp, bR_names]; exact hsub.nodup nd) (by
          have := hsub.length_le
          rw [eapp]
          rw [List.length_map] at this
          unfold bR
          rw [List.length_map]
          exact Nat.lt_of_le_of_lt (Nat.le_trans this nl) (by decide)), eapp]
        simp only [e_run, e_seq, seq_nx, seq_rt, seq_none, e_skip, e_set, e_own, nxK_some, vK_some, oK_some, e_ret, rtK_some, e_if, ifK_some, e_fVar, e_bVar, va_val, vb_val, vb_own, vb_bor, at_0, at_S, set_0, set_S, e_K, e_f1, o1_some, e_f2, o2_some, e_and, and_t, and_f, and_b, e_or, or_b, e_tOf, to_b, e_tAnd, tand_b, e_tOr, tor_b, e_tNot, not_b, e_tYes, e_fIf, fif_b, e_nil, e_cons, cons_some, e_tup, tup_some, e_lst, lst_some, e_call, call_some, e_m1, e_m2, e_sSeq, seqs_l, seqs_t, seqs_s, e_for, for_some, e_asg, tg_some, e_gN, e_gT2, e_gT3, e_frz, frz_own, e_retOwn, ch_b, e_lc, co_some, lc_some, wipe_nil, wipe_cons, end_rt, end_nx, pt_none, pt_some, int_some, e_cut, cut_l, cut_t, e_app, e_sRng, pad_0, sl_f, sl_t, sl_nil, add_i, sub_i, lt_i, le_i, gt_i, ge_i, neg_i, not_d, len_l, len_t, ix_l, ix_t, max2_i, min2_i, tup_l, tup_t, lst_l, lst_t, rev_l, rev_t, bool_i, bool_b, int_b, isn_n, e_chain, e_par, e_m3, List.length_cons, List.length_nil, List.replicate, List.cons_append, List.nil_append, Option.map_some, Nat.reduceAdd, Nat.reduceSub, Nat.zero_add, if_true, if_false, ite_true, ite_false, Bool.false_eq_true, reduceCtorEq, decide_true, decide_false, not_true, not_false_iff, Bool.not_true, Bool.not_false, Bool.and_true, Bool.true_and, Bool.and_false, Bool.false_and, Bool.or_true, Bool.true_or, Bool.or_false, Bool.false_or]
    simp only [Cd.d, cnt]
    simp only [e_run, e_seq, seq_nx, seq_rt, seq_none, e_skip, e_set, e_own, nxK_some, vK_some, oK_some, e_ret, rtK_some, e_if, ifK_some, e_fVar, e_bVar, va_val, vb_val, vb_own, vb_bor, at_0, at_S, set_0, set_S, e_K, e_f1, o1_some, e_f2, o2_some, e_and, and_t, and_f, and_b, e_or, or_b, e_tOf, to_b, e_tAnd, tand_b, e_tOr, tor_b, e_tNot, not_b, e_tYes, e_fIf, fif_b, e_nil, e_cons, cons_some, e_tup, tup_some, e_lst, lst_some, e_call, call_some, e_m1, e_m2, e_sSeq, seqs_l, seqs_t, seqs_s, e_for, for_some, e_asg, tg_some, e_gN, e_gT2, e_gT3, e_frz, frz_own, e_retOwn, ch_b, e_lc, co_some, lc_some, wipe_nil, wipe_cons, end_rt, end_nx, pt_none, pt_some, int_some, e_cut, cut_l, cut_t, e_app, e_sRng, pad_0, sl_f, sl_t, sl_nil, add_i, sub_i, lt_i, le_i, gt_i, ge_i, neg_i, not_d, len_l, len_t, ix_l, ix_t, max2_i, min2_i, tup_l, tup_t, lst_l, lst_t, rev_l, rev_t, bool_i, bool_b, int_b, isn_n, e_chain, e_par, e_m3, List.length_cons, List.length_nil, List.replicate, List.cons_append, List.nil_append, Option.map_some, Nat.reduceAdd, Nat.reduceSub, Nat.zero_add, if_true, if_false, ite_true, ite_false, Bool.false_eq_true, reduceCtorEq, decide_true, decide_false, not_true, not_false_iff, Bool.not_true, Bool.not_false, Bool.and_true, Bool.true_and, Bool.and_false, Bool.false_and, Bool.or_true, Bool.true_or, Bool.or_false, Bool.false_or, Mi.mf_borne, Mi.G_borne, one_tie h2, hc, hf, hfor]
    rw [cnts_filter]
    simp only [bR, scale, List.map_map]
    congr 2
    refine List.map_congr_left fun t _ => ?_
    simp only [Function.comp_apply, Int.natCast_mul, Int.mul_assoc]
theorem borne_fit {c : Cd} {p q : Int} {bs : List Str} (h : Fit c) (hp : 0 ≤ p) (hq : 0 < q) (hb : q < 10000) : Mi.m_borne [c.d, lowD p q, .list (stL bs)] = some (dS (bR p q (cnt (notS bs) c))) := by
  have hd := fit_dp h
  refine borne_ok 24 c p q bs h (by omega) hp hq (pow_mono hq hd ?_)
  have : (8 : Int) ^ 7 = 2097152 := by decide
  omega
theorem cnt_bound {S : Lot} : ∀ (n : Nat) (c : Cd), c.dp < n → Fit c → ∀ t ∈ cnt S c, t.2.2 ≤ 8 ^ c.dp
  | 0, c, h, _, _, _ => absurd h (Nat.not_lt_zero _)
  | n + 1, .one x k, _, _, t, ht => by
    simp only [cnt] at ht
    split at ht
    · rw [List.mem_singleton.mp ht]; exact Nat.le_refl _
    · cases ht
  | n + 1, .tie ps, hd, h, t, ht => by
    simp only [cnt] at ht
    obtain ⟨u, hu, rfl⟩ := scale_mem.mp ht
    rw [cnts_flat] at hu
    obtain ⟨a, ha, hua⟩ := List.mem_flatMap.mp hu
    have ih := cnt_bound n a (dp_part ha hd) (part_fit h ha) u hua
    have l8 : live S ps ≤ 8 := Nat.le_trans (live_le S ps) (fit_len h)
    have p8 : 8 ^ a.dp ≤ 8 ^ Cd.dps ps := Nat.pow_le_pow_right (by decide) (Cd.le_dps ha)
    simp only [Cd.dp, Nat.pow_succ]
    rw [Nat.mul_comm (8 ^ Cd.dps ps) 8]
    exact Nat.mul_le_mul l8 (Nat.le_trans ih p8)
theorem cnt_small {S : Lot} {c : Cd} (h : Fit c) {t : Ct} (ht : t ∈ cnt S c) : (t.2.2 : Int) ≤ 2097152 := by
  have h1 := cnt_bound 24 c (by have := fit_dp h; omega) h t ht
  have h2 : 8 ^ c.dp ≤ 8 ^ 7 := Nat.pow_le_pow_right (by decide) (fit_dp h)
  have h3 : 8 ^ 7 = 2097152 := by decide
  omega
/-- their names, rising -/
def overN (p q : Int) (S : Lot) (c : Cd) : List Str := ssort ((overC p q S c).map (·.1))
theorem overN_congr {p q : Int} {S T : Lot} {c : Cd} (h : ∀ x ∈ nms c, S x = T x) : overN p q S c = overN p q T c := by unfold overN overC; rw [cnt_congr c S T h]
theorem over_sub (p q : Int) (S : Lot) (c : Cd) : ((overC p q S c).map (·.1)).Sublist ((nms c).filter S) := by
  have h := cnt_names S c
  have e : (nms c).filter S = (cnt S c).map (·.1) := by
    have : (cnt S c).map (·.1) = ((cnt S c).map fun t => (t.1, t.2.1)).map (·.1) := by rw [List.map_map]; rfl
    rw [this, h]
    unfold nms
    rw [List.filter_map]
    rfl
  rw [e]
  exact List.filter_sublist.map _
theorem overN_mem {p q : Int} {S : Lot} {c : Cd} {x : Str} (h : x ∈ overN p q S c) : x ∈ nms c ∧ S x = true := List.mem_filter.mp ((over_sub p q S c).subset (ssort_mem.mp h))
theorem overN_len {p q : Int} {S : Lot} {c : Cd} (h : Fit c) : (overC p q S c).length ≤ 8 := by
  have h1 := (over_sub p q S c).length_le
  have h2 := List.length_filter_le S (nms c)
  have h3 := h.len
  rw [List.length_map] at h1
  unfold nms at h1 h2
  rw [List.length_map] at h2
  omega
/-- the strands that bear too much, in their order -/
theorem over_strands {p q : Int} {S : Lot} {c : Cd} (nd : (nms c).Nodup) {P : Str × Int → Bool} (h0 : ∀ s ∈ c.ss, S s.1 = false → P s = false) (h1 : ∀ t ∈ cnt S c, P (t.1, t.2.1) = decide (t.2.1 * (q * t.2.2) < p)) : (c.ss.filter P).map (·.1) = (overC p q S c).map (·.1) := by
  have e1 : c.ss.filter P = (c.ss.filter fun s => S s.1).filter P := by
    rw [List.filter_filter]
    refine List.filter_congr fun s hs => ?_
    cases hS : S s.1 with
    | true => simp
    | false => rw [h0 s hs hS]; simp
  rw [e1, ← cnt_names, List.filter_map, List.map_map]
  unfold overC
  have e2 : (cnt S c).filter (P ∘ fun t => (t.1, t.2.1)) = (cnt S c).filter fun t => decide (t.2.1 * (q * t.2.2) < p) := List.filter_congr fun t ht => h1 t ht
  rw [e2]
  rfl
theorem too_much_ok {c : Cd} {p q : Int} {bs : List Str} (h : Fit c) (hp : 0 ≤ p) (hq : 0 < q) (hb : q < 10000) : Mi.m_too_much [c.d, lowD p q, .list (stL bs)] = some (.list (stL (overN p q (notS bs) c))) := by
  let S := notS bs
  let rows := bR p q (cnt S c)
  have ndr : (rows.map (·.1)).Nodup := by rw [bR_names]; exact (cnt_sub S c).nodup h.nd
  let P : Str × Int → Bool := fun s => (cnt S c).any fun t => t.1 == s.1 && decide (s.2 * (q * t.2.2) < p)
  have hcl : ∀ t ∈ cnt S c, (t.2.2 : Int) ≤ 2097152 := fun t ht => cnt_small h ht
  have hc : compL (gT2 4 5) (tAnd (tOf (f2 inD (bVar 4) (bVar 3))) (tOf (f2 gtD (f2 ixD (f2 ixD (bVar 3) (bVar 4)) (fK (.int 0))) (f2 mulD (bVar 5) (f2 ixD (f2 ixD (bVar 3) (bVar 4)) (fK (.int 1))))))) (fVar 4)
      [.val c.d, .val (lowD p q), .bor (.list (stL bs)), .val (dS rows), .no, .no] (c.ss.map strD) = some ((c.ss.filter P).map fun s => .str s.1) := by
    refine compL_ofIf fun s hs => ⟨_, rfl, ?_, fun _ => by simp only [e_run, e_seq, seq_nx, seq_rt, seq_none, e_skip, e_set, e_own, nxK_some, vK_some, oK_some, e_ret, rtK_some, e_if, ifK_some, e_fVar, e_bVar, va_val, vb_val, vb_own, vb_bor, at_0, at_S, set_0, set_S, e_K, e_f1, o1_some, e_f2, o2_some, e_and, and_t, and_f, and_b, e_or, or_b, e_tOf, to_b, e_tAnd, tand_b, e_tOr, tor_b, e_tNot, not_b, e_tYes, e_fIf, fif_b, e_nil, e_cons, cons_some, e_tup, tup_some, e_lst, lst_some, e_call, call_some, e_m1, e_m2, e_sSeq, seqs_l, seqs_t, seqs_s, e_for, for_some, e_asg, tg_some, e_gN, e_gT2, e_gT3, e_frz, frz_own, e_retOwn, ch_b, e_lc, co_some, lc_some, wipe_nil, wipe_cons, end_rt, end_nx, pt_none, pt_some, int_some, e_cut, cut_l, cut_t, e_app, e_sRng, pad_0, sl_f, sl_t, sl_nil, add_i, sub_i, lt_i, le_i, gt_i, ge_i, neg_i, not_d, len_l, len_t, ix_l, ix_t, max2_i, min2_i, tup_l, tup_t, lst_l, lst_t, rev_l, rev_t, bool_i, bool_b, int_b, isn_n, e_chain, e_par, e_m3, List.length_cons, List.length_nil, List.replicate, List.cons_append, List.nil_append, Option.map_some, Nat.reduceAdd, Nat.reduceSub, Nat.zero_add, if_true, if_false, ite_true, ite_false, Bool.false_eq_true, reduceCtorEq, decide_true, decide_false, not_true, not_false_iff, Bool.not_true, Bool.not_false, Bool.and_true, Bool.true_and, Bool.and_false, Bool.false_and, Bool.or_true, Bool.true_or, Bool.or_false, Bool.false_or]⟩
    cases hS : S s.1 with
    | false =>
      have e1 : rows.any (fun e => e.1 == s.1) = false := by
        rw [List.any_eq_false]
        intro e he hx
        obtain ⟨t, ht, rfl⟩ := List.mem_map.mp he
        rw [beq_iff_eq] at hx
        have := (cnt_in ht).2
        rw [show t.1 = s.1 from hx, hS] at this
        cases this
      have e2 : P s = false := by
        rw [List.any_eq_false]
        intro t ht hx
        rw [Bool.and_eq_true, beq_iff_eq] at hx
        have := (cnt_in ht).2
        rw [hx.1, hS] at this
        cases this
      simp only [e_run, e_seq, seq_nx, seq_rt, seq_none, e_skip, e_set, e_own, nxK_some, vK_some, oK_some, e_ret, rtK_some, e_if, ifK_some, e_fVar, e_bVar, va_val, vb_val, vb_own, vb_bor, at_0, at_S, set_0, set_S, e_K, e_f1, o1_some, e_f2, o2_some, e_and, and_t, and_f, and_b, e_or, or_b, e_tOf, to_b, e_tAnd, tand_b, e_tOr, tor_b, e_tNot, not_b, e_tYes, e_fIf, fif_b, e_nil, e_cons, cons_some, e_tup, tup_some, e_lst, lst_some, e_call, call_some, e_m1, e_m2, e_sSeq, seqs_l, seqs_t, seqs_s, e_for, for_some, e_asg, tg_some, e_gN, e_gT2, e_gT3, e_frz, frz_own, e_retOwn, ch_b, e_lc, co_some, lc_some, wipe_nil, wipe_cons, end_rt, end_nx, pt_none, pt_some, int_some, e_cut, cut_l, cut_t, e_app, e_sRng, pad_0, sl_f, sl_t, sl_nil, add_i, sub_i, lt_i, le_i, gt_i, ge_i, neg_i, not_d, len_l, len_t, ix_l, ix_t, max2_i, min2_i, tup_l, tup_t, lst_l, lst_t, rev_l, rev_t, bool_i, bool_b, int_b, isn_n, e_chain, e_par, e_m3, List.length_cons, List.length_nil, List.replicate, List.cons_append, List.nil_append, Option.map_some, Nat.reduceAdd, Nat.reduceSub, Nat.zero_add, if_true, if_false, ite_true, ite_false, Bool.false_eq_true, reduceCtorEq, decide_true, decide_false, not_true, not_false_iff, Bool.not_true, Bool.not_false, Bool.and_true, Bool.true_and, Bool.and_false, Bool.false_and, Bool.or_true, Bool.true_or, Bool.or_false, Bool.false_or, inS_ok, e1, e2]
    | true =>
      obtain ⟨k, hk⟩ := cnt_has hs hS
      have mem : (s.1, lowD p (q * k)) ∈ rows := List.mem_map.mpr ⟨_, hk, rfl⟩
      have e1 : rows.any (fun e => e.1 == s.1) = true := List.any_eq_true.mpr ⟨_, mem, by simp⟩
      have kp := cnt_pos S c _ hk
      have kb := hcl _ hk
      have hqk : 0 < q * (k : Int) := Int.mul_pos hq (by simp only at kp; omega)
      obtain ⟨p0, q0, e, f1, f2, f3, f4⟩ := low_form hp hqk
      have r := ratio_le (x := s.2) f2 hqk f4
      have hix := ixS_ok ndr mem
      have e3 : P s = decide (s.2 * q0 < p0) := by
        by_cases hx : s.2 * q0 < p0
        · rw [decide_eq_true hx]
          refine List.any_eq_true.mpr ⟨_, hk, ?_⟩
          rw [Bool.and_eq_true, beq_iff_eq]
          exact ⟨rfl, decide_eq_true (by have : ¬ p ≤ s.2 * (q * k) := fun g => by have := r.mpr g; omega
                                         simp only; omega)⟩
        · rw [decide_eq_false hx]
          rw [List.any_eq_false]
          intro t ht hy
          rw [Bool.and_eq_true, beq_iff_eq, decide_eq_true_eq] at hy
          have := nodup_uniq (cnt_nodup (S := S) h.nd) ht hk hy.1
          rw [this] at hy
          have := r.mp (by omega)
          simp only at hy
          omega
      have hq0 : q0 < 18446744073709551616 := by
        have h1 : q * (k : Int) ≤ 10000 * 2097152 := Int.mul_le_mul (by omega) kb (by omega) (by omega)
        omega
      have hm : mulD (.int s.2) (.int q0) = some (.int (s.2 * q0)) := mul_ok (Or.inr (by omega))
      rw [e] at hix
      simp only [ldD] at hix
      simp only [e_run, e_seq, seq_nx, seq_rt, seq_none, e_skip, e_set, e_own, nxK_some, vK_some, oK_some, e_ret, rtK_some, e_if, ifK_some, e_fVar, e_bVar, va_val, vb_val, vb_own, vb_bor, at_0, at_S, set_0, set_S, e_K, e_f1, o1_some, e_f2, o2_some, e_and, and_t, and_f, and_b, e_or, or_b, e_tOf, to_b, e_tAnd, tand_b, e_tOr, tor_b, e_tNot, not_b, e_tYes, e_fIf, fif_b, e_nil, e_cons, cons_some, e_tup, tup_some, e_lst, lst_some, e_call, call_some, e_m1, e_m2, e_sSeq, seqs_l, seqs_t, seqs_s, e_for, for_some, e_asg, tg_some, e_gN, e_gT2, e_gT3, e_frz, frz_own, e_retOwn, ch_b, e_lc, co_some, lc_some, wipe_nil, wipe_cons, end_rt, end_nx, pt_none, pt_some, int_some, e_cut, cut_l, cut_t, e_app, e_sRng, pad_0, sl_f, sl_t, sl_nil, add_i, sub_i, lt_i, le_i, gt_i, ge_i, neg_i, not_d, len_l, len_t, ix_l, ix_t, max2_i, min2_i, tup_l, tup_t, lst_l, lst_t, rev_l, rev_t, bool_i, bool_b, int_b, isn_n, e_chain, e_par, e_m3, List.length_cons, List.length_nil, List.replicate, List.cons_append, List.nil_append, Option.map_some, Nat.reduceAdd, Nat.reduceSub, Nat.zero_add, if_true, if_false, ite_true, ite_false, Bool.false_eq_true, reduceCtorEq, decide_true, decide_false, not_true, not_false_iff, Bool.not_true, Bool.not_false, Bool.and_true, Bool.true_and, Bool.and_false, Bool.false_and, Bool.or_true, Bool.true_or, Bool.or_false, Bool.false_or, inS_ok, e1, hix, at_two0, at_two1, hm, e3]
  have hov := over_strands (p := p) (q := q) (S := S) (P := P) h.nd (fun s hs hS => by
      rw [List.any_eq_false]
      intro t ht hx
      rw [Bool.and_eq_true, beq_iff_eq] at hx
      have := (cnt_in ht).2
      rw [hx.1, hS] at this
      cases this) fun t ht => by
    by_cases hx : t.2.1 * (q * t.2.2) < p
    · rw [decide_eq_true hx]
      exact List.any_eq_true.mpr ⟨t, ht, by simp [hx]⟩
    · rw [decide_eq_false hx, List.any_eq_false]
      intro u hu hy
      rw [Bool.and_eq_true, beq_iff_eq, decide_eq_true_eq] at hy
      have := nodup_uniq (cnt_nodup (S := S) h.nd) hu ht hy.1
      rw [this] at hy
      exact hx hy.2
  have e4 : (c.ss.filter P).map (fun s => PyData.str s.1) = stL ((overC p q S c).map (·.1)) := by rw [← hov]; simp [stL]
  have hl := overN_len (p := p) (q := q) (S := S) h
  have hf : fitsL ((c.ss.filter P).map fun s => PyData.str s.1).length = true := fitsL_small (by
    rw [e4]; unfold stL; rw [List.length_map, List.length_map]; omega)
  have hs := sort_strs (xs := (overC p q S c).map (·.1)) (by rw [List.length_map]; omega)
  have hbo := borne_fit (bs := bs) h hp hq hb
  rw [show dS (bR p q (cnt (notS bs) c)) = dS rows from rfl] at hbo
  rw [e4] at hf hc
  simp only [e_run, e_seq, seq_nx, seq_rt, seq_none, e_skip, e_set, e_own, nxK_some, vK_some, oK_some, e_ret, rtK_some, e_if, ifK_some, e_fVar, e_bVar, va_val, vb_val, vb_own, vb_bor, at_0, at_S, set_0, set_S, e_K, e_f1, o1_some, e_f2, o2_some, e_and, and_t, and_f, and_b, e_or, or_b, e_tOf, to_b, e_tAnd, tand_b, e_tOr, tor_b, e_tNot, not_b, e_tYes, e_fIf, fif_b, e_nil, e_cons, cons_some, e_tup, tup_some, e_lst, lst_some, e_call, call_some, e_m1, e_m2, e_sSeq, seqs_l, seqs_t, seqs_s, e_for, for_some, e_asg, tg_some, e_gN, e_gT2, e_gT3, e_frz, frz_own, e_retOwn, ch_b, e_lc, co_some, lc_some, wipe_nil, wipe_cons, end_rt, end_nx, pt_none, pt_some, int_some, e_cut, cut_l, cut_t, e_app, e_sRng, pad_0, sl_f, sl_t, sl_nil, add_i, sub_i, lt_i, le_i, gt_i, ge_i, neg_i, not_d, len_l, len_t, ix_l, ix_t, max2_i, min2_i, tup_l, tup_t, lst_l, lst_t, rev_l, rev_t, bool_i, bool_b, int_b, isn_n, e_chain, e_par, e_m3, List.length_cons, List.length_nil, List.replicate, List.cons_append, List.nil_append, Option.map_some, Nat.reduceAdd, Nat.reduceSub, Nat.zero_add, if_true, if_false, ite_true, ite_false, Bool.false_eq_true, reduceCtorEq, decide_true, decide_false, not_true, not_false_iff, Bool.not_true, Bool.not_false, Bool.and_true, Bool.true_and, Bool.and_false, Bool.false_and, Bool.or_true, Bool.true_or, Bool.or_false, Bool.false_or, Mi.m_too_much, Mi.G_too_much, hbo, strands_fit h, hc, hf, hs]
  rfl
end Fact
set_option maxRecDepth 100000
/-! Who bears too much, by the law. -/
namespace Fact
open PySem Pu
def inS (ls : List Str) : Lot := fun x => ls.contains x
def cR (l : List Ct) : Rows := l.map fun t => (t.1, .int t.2.2)
def kR (m : Nat) (l : List Ct) : Rows := l.map fun t => (t.1, .int ((m : Int) * t.2.2))
theorem cR_names (l : List Ct) : (cR l).map (·.1) = l.map (·.1) := by simp [cR]
theorem kR_names (m : Nat) (l : List Ct) : (kR m l).map (·.1) = l.map (·.1) := by simp [kR]
theorem seqs_dS (l : Rows) : seqsK (some (dS l)) = some (stL (l.map (·.1))) := by
  show (if notT (kv l) then some ((kv l).map (·.1)) else none) = _
  rw [kv_notT, if_pos rfl, kv_keys]
  rfl
theorem seqs_cR (l : List Ct) : seqsK (some (dS (cR l))) = some (l.map fun t => .str t.1) := by rw [seqs_dS, cR_names]; simp [stL]
theorem cR_alive (S : Lot) (a : Cd) : (!(cR (cnt S a)).isEmpty) = alive S a := by
  cases h : alive S a with
  | true =>
    have := cnt_ne.mpr h
    cases e : cnt S a with
    | nil => exact absurd e this
    | cons _ _ => rfl
  | false =>
    cases e : cnt S a with
    | nil => rfl
    | cons t r =>
      have := cnt_ne.mp (show cnt S a ≠ [] by rw [e]; simp)
      rw [h] at this; cases this
theorem law_counts_ok : ∀ (n : Nat) (c : Cd) (ls : List Str), Fit c → c.dp < n → Mi.mf_law_counts n [c.d, .list (stL ls)] = some (dS (cR (cnt (inS ls) c)))
  | 0, c, _, _, h => absurd h (Nat.not_lt_zero _)
  | n + 1, .one x k, ls, _, _ => by
    simp only [Cd.d, cnt, inS]
    by_cases hc : ls.contains x = true
    · simp only [e_run, e_seq, seq_nx, seq_rt, seq_none, e_skip, e_set, e_own, nxK_some, vK_some, oK_some, e_ret, rtK_some, e_if, ifK_some, e_fVar, e_bVar, va_val, vb_val, vb_own, vb_bor, at_0, at_S, set_0, set_S, e_K, e_f1, o1_some, e_f2, o2_some, e_and, and_t, and_f, and_b, e_or, or_b, e_tOf, to_b, e_tAnd, tand_b, e_tOr, tor_b, e_tNot, not_b, e_tYes, e_fIf, fif_b, e_nil, e_cons, cons_some, e_tup, tup_some, e_lst, lst_some, e_call, call_some, e_m1, e_m2, e_sSeq, seqs_l, seqs_t, seqs_s, e_for, for_some, e_asg, tg_some, e_gN, e_gT2, e_gT3, e_frz, frz_own, e_retOwn, ch_b, e_lc, co_some, lc_some, wipe_nil, wipe_cons, end_rt, end_nx, pt_none, pt_some, int_some, e_cut, cut_l, cut_t, e_app, e_sRng, pad_0, sl_f, sl_t, sl_nil, add_i, sub_i, lt_i, le_i, gt_i, ge_i, neg_i, not_d, len_l, len_t, ix_l, ix_t, max2_i, min2_i, tup_l, tup_t, lst_l, lst_t, rev_l, rev_t, bool_i, bool_b, int_b, isn_n, e_chain, e_par, e_m3, List.length_cons, List.length_nil, List.replicate, List.cons_append, List.nil_append, Option.map_some, Nat.reduceAdd, Nat.reduceSub, Nat.zero_add, if_true, if_false, ite_true, ite_false, Bool.false_eq_true, reduceCtorEq, decide_true, decide_false, not_true, not_false_iff, Bool.not_true, Bool.not_false, Bool.and_true, Bool.true_and, Bool.and_false, Bool.false_and, Bool.or_true, Bool.true_or, Bool.or_false, Bool.false_or, Mi.mf_law_counts, Mi.G_law_counts, at_one0, inst_s, in_l, hc, e_dict1, d1_s]
      simp [dS, kv, cR]
    · rw [Bool.not_eq_true] at hc
      simp only [e_run, e_seq, seq_nx, seq_rt, seq_none, e_skip, e_set, e_own, nxK_some, vK_some, oK_some, e_ret, rtK_some, e_if, ifK_some, e_fVar, e_bVar, va_val, vb_val, vb_own, vb_bor, at_0, at_S, set_0, set_S, e_K, e_f1, o1_some, e_f2, o2_some, e_and, and_t, and_f, and_b, e_or, or_b, e_tOf, to_b, e_tAnd, tand_b, e_tOr, tor_b, e_tNot, not_b, e_tYes, e_fIf, fif_b, e_nil, e_cons, cons_some, e_tup, tup_some, e_lst, lst_some, e_call, call_some, e_m1, e_m2, e_sSeq, seqs_l, seqs_t, seqs_s, e_for, for_some, e_asg, tg_some, e_gN, e_gT2, e_gT3, e_frz, frz_own, e_retOwn, ch_b, e_lc, co_some, lc_some, wipe_nil, wipe_cons, end_rt, end_nx, pt_none, pt_some, int_some, e_cut, cut_l, cut_t, e_app, e_sRng, pad_0, sl_f, sl_t, sl_nil, add_i, sub_i, lt_i, le_i, gt_i, ge_i, neg_i, not_d, len_l, len_t, ix_l, ix_t, max2_i, min2_i, tup_l, tup_t, lst_l, lst_t, rev_l, rev_t, bool_i, bool_b, int_b, isn_n, e_chain, e_par, e_m3, List.length_cons, List.length_nil, List.replicate, List.cons_append, List.nil_append, Option.map_some, Nat.reduceAdd, Nat.reduceSub, Nat.zero_add, if_true, if_false, ite_true, ite_false, Bool.false_eq_true, reduceCtorEq, decide_true, decide_false, not_true, not_false_iff, Bool.not_true, Bool.not_false, Bool.and_true, Bool.true_and, Bool.and_false, Bool.false_and, Bool.or_true, Bool.true_or, Bool.or_false, Bool.false_or, Mi.mf_law_counts, Mi.G_law_counts, at_one0, inst_s, in_l, hc]
      rfl
  | n + 1, .tie ps, ls, h, hd => by
    obtain ⟨h2, _⟩ := tie_ok h.ok
    obtain ⟨l, hl⟩ := tie_at h2
    have h8 := fit_len h
    let S := inS ls
    let enc : Cd → D := fun a => dS (cR (cnt S a))
    have hc : compL (gN 3) tYes (fCall (Mi.mf_law_counts n) [fVar 3, bVar 1]) [.val (.tuple (Cd.ds ps)), .bor (.list (stL ls)), .no, .no, .no, .no, .no] (Cd.ds ps) = some (ps.map enc) := by
      rw [Cd.ds_map]
      exact compL_of fun a ha => ⟨_, rfl, by simp only [e_run, e_seq, seq_nx, seq_rt, seq_none, e_skip, e_set, e_own, nxK_some, vK_some, oK_some, e_ret, rtK_some, e_if, ifK_some, e_fVar, e_bVar, va_val, vb_val, vb_own, vb_bor, at_0, at_S, set_0, set_S, e_K, e_f1, o1_some, e_f2, o2_some, e_and, and_t, and_f, and_b, e_or, or_b, e_tOf, to_b, e_tAnd, tand_b, e_tOr, tor_b, e_tNot, not_b, e_tYes, e_fIf, fif_b, e_nil, e_cons, cons_some, e_tup, tup_some, e_lst, lst_some, e_call, call_some, e_m1, e_m2, e_sSeq, seqs_l, seqs_t, seqs_s, e_for, for_some, e_asg, tg_some, e_gN, e_gT2, e_gT3, e_frz, frz_own, e_retOwn, ch_b, e_lc, co_some, lc_some, wipe_nil, wipe_cons, end_rt, end_nx, pt_none, pt_some, int_some, e_cut, cut_l, cut_t, e_app, e_sRng, pad_0, sl_f, sl_t, sl_nil, add_i, sub_i, lt_i, le_i, gt_i, ge_i, neg_i, not_d, len_l, len_t, ix_l, ix_t, max2_i, min2_i, tup_l, tup_t, lst_l, lst_t, rev_l, rev_t, bool_i, bool_b, int_b, isn_n, e_chain, e_par, e_m3, List.length_cons, List.length_nil, List.replicate, List.cons_append, List.nil_append, Option.map_some, Nat.reduceAdd, Nat.reduceSub, Nat.zero_add, if_true, if_false, ite_true, ite_false, Bool.false_eq_true, reduceCtorEq, decide_true, decide_false, not_true, not_false_iff, Bool.not_true, Bool.not_false, Bool.and_true, Bool.true_and, Bool.and_false, Bool.false_and, Bool.or_true, Bool.true_or, Bool.or_false, Bool.false_or, law_counts_ok n a ls (part_fit h ha) (dp_part ha hd)]; rfl⟩
    have hf : fitsL (ps.map enc).length = true := fitsL_small (by rw [List.length_map]; omega)
    have hc2 : compL (gN 4) (tOf (f2 neD (bVar 4) (fK (.dict [])))) (fVar 4) [.val (.tuple (Cd.ds ps)), .bor (.list (stL ls)), .val (.list (ps.map enc)), .no, .no, .no, .no] (ps.map enc) = some ((ps.filter (alive S)).map enc) := by
      refine compL_ofIf fun a ha => ⟨_, rfl, ?_, fun _ => by simp only [e_run, e_seq, seq_nx, seq_rt, seq_none, e_skip, e_set, e_own, nxK_some, vK_some, oK_some, e_ret, rtK_some, e_if, ifK_some, e_fVar, e_bVar, va_val, vb_val, vb_own, vb_bor, at_0, at_S, set_0, set_S, e_K, e_f1, o1_some, e_f2, o2_some, e_and, and_t, and_f, and_b, e_or, or_b, e_tOf, to_b, e_tAnd, tand_b, e_tOr, tor_b, e_tNot, not_b, e_tYes, e_fIf, fif_b, e_nil, e_cons, cons_some, e_tup, tup_some, e_lst, lst_some, e_call, call_some, e_m1, e_m2, e_sSeq, seqs_l, seqs_t, seqs_s, e_for, for_some, e_asg, tg_some, e_gN, e_gT2, e_gT3, e_frz, frz_own, e_retOwn, ch_b, e_lc, co_some, lc_some, wipe_nil, wipe_cons, end_rt, end_nx, pt_none, pt_some, int_some, e_cut, cut_l, cut_t, e_app, e_sRng, pad_0, sl_f, sl_t, sl_nil, add_i, sub_i, lt_i, le_i, gt_i, ge_i, neg_i, not_d, len_l, len_t, ix_l, ix_t, max2_i, min2_i, tup_l, tup_t, lst_l, lst_t, rev_l, rev_t, bool_i, bool_b, int_b, isn_n, e_chain, e_par, e_m3, List.length_cons, List.length_nil, List.replicate, List.cons_append, List.nil_append, Option.map_some, Nat.reduceAdd, Nat.reduceSub, Nat.zero_add, if_true, if_false, ite_true, ite_false, Bool.false_eq_true, reduceCtorEq, decide_true, decide_false, not_true, not_false_iff, Bool.not_true, Bool.not_false, Bool.and_true, Bool.true_and, Bool.and_false, Bool.false_and, Bool.or_true, Bool.true_or, Bool.or_false, Bool.false_or]⟩
      have := neE_ok (cR (cnt S a))
      rw [cR_alive] at this
      simp only [e_run, e_seq, seq_nx, seq_rt, seq_none, e_skip, e_set, e_own, nxK_some, vK_some, oK_some, e_ret, rtK_some, e_if, ifK_some, e_fVar, e_bVar, va_val, vb_val, vb_own, vb_bor, at_0, at_S, set_0, set_S, e_K, e_f1, o1_some, e_f2, o2_some, e_and, and_t, and_f, and_b, e_or, or_b, e_tOf, to_b, e_tAnd, tand_b, e_tOr, tor_b, e_tNot, not_b, e_tYes, e_fIf, fif_b, e_nil, e_cons, cons_some, e_tup, tup_some, e_lst, lst_some, e_call, call_some, e_m1, e_m2, e_sSeq, seqs_l, seqs_t, seqs_s, e_for, for_some, e_asg, tg_some, e_gN, e_gT2, e_gT3, e_frz, frz_own, e_retOwn, ch_b, e_lc, co_some, lc_some, wipe_nil, wipe_cons, end_rt, end_nx, pt_none, pt_some, int_some, e_cut, cut_l, cut_t, e_app, e_sRng, pad_0, sl_f, sl_t, sl_nil, add_i, sub_i, lt_i, le_i, gt_i, ge_i, neg_i, not_d, len_l, len_t, ix_l, ix_t, max2_i, min2_i, tup_l, tup_t, lst_l, lst_t, rev_l, rev_t, bool_i, bool_b, int_b, isn_n, e_chain, e_par, e_m3, List.length_cons, List.length_nil, List.replicate, List.cons_append, List.nil_append, Option.map_some, Nat.reduceAdd, Nat.reduceSub, Nat.zero_add, if_true, if_false, ite_true, ite_false, Bool.false_eq_true, reduceCtorEq, decide_true, decide_false, not_true, not_false_iff, Bool.not_true, Bool.not_false, Bool.and_true, Bool.true_and, Bool.and_false, Bool.false_and, Bool.or_true, Bool.true_or, Bool.or_false, Bool.false_or, enc, this]
    have hf2 : fitsL ((ps.filter (alive S)).map enc).length = true := fitsL_small (by rw [List.length_map]; have := live_le S ps; unfold live at this; omega)
    have nd := tie_nd h
    have nl := nmss_len h
    have lv : live S ps ≤ 8 := Nat.le_trans (live_le _ _) h8
    have hlen : lenD (.list ((ps.filter (alive S)).map enc)) = some (.int (live S ps)) := by
      show some (PyData.int _) = _
      rw [List.length_map]; rfl
    obtain ⟨ρ', hfor, c4, c6, rfl⟩ := forL_map (enc := enc) (tg := gN 4) (body := Mi.B_law_counts_2) (full := ps.filter (alive S)) (xs := ps.filter (alive S)) (pre := [])
      (ρ := [.val (.tuple (Cd.ds ps)), .bor (.list (stL ls)), .val (.list ((ps.filter (alive S)).map enc)), .no, .no, .own (.dict []), .no])
      (I := fun qs ρ => ∃ c4 c6, ρ = [.val (.tuple (Cd.ds ps)), .bor (.list (stL ls)), .val (.list ((ps.filter (alive S)).map enc)), .no, c4, .own (dS (kR (live S ps) (cnts S qs))), c6]) rfl ⟨.no, .no, rfl⟩ fun qs a rs ρ e2 ⟨c4, c6, hρ⟩ => by
        subst hρ
        have ha' : a ∈ ps.filter (alive S) := by rw [e2]; simp
        obtain ⟨ha, hal⟩ := List.mem_filter.mp ha'
        have fa := part_fit h ha
        have hsub : (cnts S (qs ++ [a])).map (·.1) |>.Sublist (nmss ps) := ((cnts_sub _ _).trans (by
          rw [e2, show qs ++ a :: rs = (qs ++ [a]) ++ rs by simp, nmss_app (qs ++ [a]) rs]; exact List.sublist_append_left _ _)).trans (nmss_filter _ _)
        have e3 : cnts S (qs ++ [a]) = cnts S qs ++ cnt S a := by simp [cnts_app, cnts]
        rw [e3] at hsub
        obtain ⟨ρ', hin, c6', rfl⟩ := forL_map (enc := fun t : Ct => PyData.str t.1) (tg := gN 6) (body := Mi.B_law_counts_1) (full := cnt S a) (xs := cnt S a) (pre := [])
          (ρ := [.val (.tuple (Cd.ds ps)), .bor (.list (stL ls)), .val (.list ((ps.filter (alive S)).map enc)), .no, .val (enc a), .own (dS (kR (live S ps) (cnts S qs))), c6])
          (I := fun ts ρ => ∃ c6, ρ = [.val (.tuple (Cd.ds ps)), .bor (.list (stL ls)), .val (.list ((ps.filter (alive S)).map enc)), .no, .val (enc a), .own (dS (kR (live S ps) (cnts S qs ++ ts))), c6]) rfl ⟨c6, by simp⟩ fun ts t us ρ e4 ⟨c6, hρ⟩ => by
            subst hρ
            have ht : t ∈ cnt S a := by rw [e4]; simp
            have mem : (t.1, PyData.int t.2.2) ∈ cR (cnt S a) := List.mem_map.mpr ⟨t, ht, rfl⟩
            have hix : ixD (enc a) (.str t.1) = some (.int t.2.2) := ixS_ok (by rw [cR_names]; exact (cnt_sub S a).nodup fa.nd) mem
            have hm : mulD (.int (live S ps)) (.int t.2.2) = some (.int ((live S ps : Int) * t.2.2)) := mul_ok (Or.inl (by omega))
            have hs3 : ((cnts S qs ++ (ts ++ [t])).map (·.1)).Sublist (nmss ps) := (by
              refine List.Sublist.trans ?_ hsub
              rw [e4]
              refine List.Sublist.map _ (List.Sublist.append (List.Sublist.refl _) ?_)
              rw [show ts ++ t :: us = (ts ++ [t]) ++ us by simp]
              exact List.sublist_append_left _ _)
            refine ⟨_, _, rfl, ?_, .val (.str t.1), rfl⟩
            rw [show Mi.B_law_counts_1 = gPut 5 (fVar 6) (f2 mulD (fCall (m1 lenD) [bVar 2]) (f2 ixD (bVar 4) (bVar 6))) from rfl]
            rw [putS_ok (l := kR (live S ps) (cnts S qs ++ ts)) (x := t.1) (d := .int ((live S ps : Int) * t.2.2)) rfl (by simp only [e_run, e_seq, seq_nx, seq_rt, seq_none, e_skip, e_set, e_own, nxK_some, vK_some, oK_some, e_ret, rtK_some, e_if, ifK_some, e_fVar, e_bVar, va_val, vb_val, vb_own, vb_bor, at_0, at_S, set_0, set_S, e_K, e_f1, o1_some, e_f2, o2_some, e_and, and_t, and_f, and_b, e_or, or_b, e_tOf, to_b, e_tAnd, tand_b, e_tOr, tor_b, e_tNot, not_b, e_tYes, e_fIf, fif_b, e_nil, e_cons, cons_some, e_tup, tup_some, e_lst, lst_some, e_call, call_some, e_m1, e_m2, e_sSeq, seqs_l, seqs_t, seqs_s, e_for, for_some, e_asg, tg_some, e_gN, e_gT2, e_gT3, e_frz, frz_own, e_retOwn, ch_b, e_lc, co_some, lc_some, wipe_nil, wipe_cons, end_rt, end_nx, pt_none, pt_some, int_some, e_cut, cut_l, cut_t, e_app, e_sRng, pad_0, sl_f, sl_t, sl_nil, add_i, sub_i, lt_i, le_i, gt_i, ge_i, neg_i, not_d, len_l, len_t, ix_l, ix_t, max2_i, min2_i, tup_l, tup_t, lst_l, lst_t, rev_l, rev_t, bool_i, bool_b, int_b, isn_n, e_chain, e_par, e_m3, List.length_cons, List.length_nil, List.replicate, List.cons_append, List.nil_append, Option.map_some, Nat.reduceAdd, Nat.reduceSub, Nat.zero_add, if_true, if_false, ite_true, ite_false, Bool.false_eq_true, reduceCtorEq, decide_true, decide_false, not_true, not_false_iff, Bool.not_true, Bool.not_false, Bool.and_true, Bool.true_and, Bool.and_false, Bool.false_and, Bool.or_true, Bool.true_or, Bool.or_false, Bool.false_or]) (by
              simp only [e_f2, e_call, e_fVar, e_bVar, e_cons, e_nil, at_0, at_S, set_0, set_S, va_val, vb_val, vb_bor, cons_some, call_some, e_m1, o2_some, hlen, hix, hm]) (fun e he hx => by
                have n := hs3.nodup nd
                rw [← List.append_assoc, List.map_append, List.nodup_append] at n
                refine n.2.2 e.1 ?_ t.1 (by simp) hx
                rw [← kR_names (live S ps)]
                exact List.mem_map.mpr ⟨e, he, rfl⟩) (by
              have := hs3.length_le
              rw [List.length_map] at this
              unfold kR
              rw [List.length_map]
              rw [← List.append_assoc, List.length_append] at this
              exact Nat.lt_of_le_of_lt (show _ ≤ 8 by omega) (by decide))]
            simp [kR]
        refine ⟨_, _, rfl, ?_, .val (enc a), c6', rfl⟩
        rw [e3]
        have hsq : seqsK (some (enc a)) = some ((cnt S a).map fun t => .str t.1) := seqs_cR _
        simp only [e_run, e_seq, seq_nx, seq_rt, seq_none, e_skip, e_set, e_own, nxK_some, vK_some, oK_some, e_ret, rtK_some, e_if, ifK_some, e_fVar, e_bVar, va_val, vb_val, vb_own, vb_bor, at_0, at_S, set_0, set_S, e_K, e_f1, o1_some, e_f2, o2_some, e_and, and_t, and_f, and_b, e_or, or_b, e_tOf, to_b, e_tAnd, tand_b, e_tOr, tor_b, e_tNot, not_b, e_tYes, e_fIf, fif_b, e_nil, e_cons, cons_some, e_tup, tup_some, e_lst, lst_some, e_call, call_some, e_m1, e_m2, e_sSeq, seqs_l, seqs_t, seqs_s, e_for, for_some, e_asg, tg_some, e_gN, e_gT2, e_gT3, e_frz, frz_own, e_retOwn, ch_b, e_lc, co_some, lc_some, wipe_nil, wipe_cons, end_rt, end_nx, pt_none, pt_some, int_some, e_cut, cut_l, cut_t, e_app, e_sRng, pad_0, sl_f, sl_t, sl_nil, add_i, sub_i, lt_i, le_i, gt_i, ge_i, neg_i, not_d, len_l, len_t, ix_l, ix_t, max2_i, min2_i, tup_l, tup_t, lst_l, lst_t, rev_l, rev_t, bool_i, bool_b, int_b, isn_n, e_chain, e_par, e_m3, List.length_cons, List.length_nil, List.replicate, List.cons_append, List.nil_append, Option.map_some, Nat.reduceAdd, Nat.reduceSub, Nat.zero_add, if_true, if_false, ite_true, ite_false, Bool.false_eq_true, reduceCtorEq, decide_true, decide_false, not_true, not_false_iff, Bool.not_true, Bool.not_false, Bool.and_true, Bool.true_and, Bool.and_false, Bool.false_and, Bool.or_true, Bool.true_or, Bool.or_false, Bool.false_or, Mi.B_law_counts_2, hsq, hin]
    simp only [Cd.d, cnt]
    simp only [e_run, e_seq, seq_nx, seq_rt, seq_none, e_skip, e_set, e_own, nxK_some, vK_some, oK_some, e_ret, rtK_some, e_if, ifK_some, e_fVar, e_bVar, va_val, vb_val, vb_own, vb_bor, at_0, at_S, set_0, set_S, e_K, e_f1, o1_some, e_f2, o2_some, e_and, and_t, and_f, and_b, e_or, or_b, e_tOf, to_b, e_tAnd, tand_b, e_tOr, tor_b, e_tNot, not_b, e_tYes, e_fIf, fif_b, e_nil, e_cons, cons_some, e_tup, tup_some, e_lst, lst_some, e_call, call_some, e_m1, e_m2, e_sSeq, seqs_l, seqs_t, seqs_s, e_for, for_some, e_asg, tg_some, e_gN, e_gT2, e_gT3, e_frz, frz_own, e_retOwn, ch_b, e_lc, co_some, lc_some, wipe_nil, wipe_cons, end_rt, end_nx, pt_none, pt_some, int_some, e_cut, cut_l, cut_t, e_app, e_sRng, pad_0, sl_f, sl_t, sl_nil, add_i, sub_i, lt_i, le_i, gt_i, ge_i, neg_i, not_d, len_l, len_t, ix_l, ix_t, max2_i, min2_i, tup_l, tup_t, lst_l, lst_t, rev_l, rev_t, bool_i, bool_b, int_b, isn_n, e_chain, e_par, e_m3, List.length_cons, List.length_nil, List.replicate, List.cons_append, List.nil_append, Option.map_some, Nat.reduceAdd, Nat.reduceSub, Nat.zero_add, if_true, if_false, ite_true, ite_false, Bool.false_eq_true, reduceCtorEq, decide_true, decide_false, not_true, not_false_iff, Bool.not_true, Bool.not_false, Bool.and_true, Bool.true_and, Bool.and_false, Bool.false_and, Bool.or_true, Bool.true_or, Bool.or_false, Bool.false_or, Mi.mf_law_counts, Mi.G_law_counts, hl, inst_t, hc, hf, hc2, hf2, hfor]
    rw [cnts_filter]
    simp only [cR, kR, scale, List.map_map]
    rfl
theorem law_counts_fit {c : Cd} {ls : List Str} (h : Fit c) : Mi.m_law_counts [c.d, .list (stL ls)] = some (dS (cR (cnt (inS ls) c))) := law_counts_ok 24 c ls h (by have := fit_dp h; omega)
def sR (l : List (Str × Int)) : Rows := l.map fun s => (s.1, .int s.2)
theorem sR_names (l : List (Str × Int)) : (sR l).map (·.1) = l.map (·.1) := by simp [sR]
theorem pairs_sR : ∀ l : List (Str × Int), pairsL (l.map strD) = some (kv (sR l))
  | [] => rfl
  | s :: l => by
    show (if keyOk (.str s.1) = true then (pairsL (l.map strD)).map ((.str s.1, .int s.2) :: ·) else none) = _
    rw [pairs_sR l]
    rfl
theorem dict_ss {l : List (Str × Int)} (nd : (l.map (·.1)).Nodup) : dictD (.list (l.map strD)) = some (dS (sR l)) := by
  show (pairsL _).map _ = _
  rw [pairs_sR]
  have := kv_merge (l := []) (m := sR l) (by rw [List.nil_append, sR_names]; exact nd)
  simp only [Option.map_some]
  rw [show mergeK [] (kv (sR l)) = mergeK (kv []) (kv (sR l)) from rfl, this]
  rfl
theorem law_over_ok {c : Cd} {p q : Int} {ls : List Str} (h : Fit c) (hp : 0 ≤ p) (hq : 0 < q) (hb : q < 10000) : Mi.m_law_over [c.d, lowD p q, .list (stL ls)] = some (.list (stL (overN p q (inS ls) c))) := by
  obtain ⟨p0, q0, e, g1, g2, g3, g4⟩ := low_form hp hq
  have hd := dict_ss (l := c.ss) h.nd
  have hc : compL (gN 5) (tOf (f2 gtD (f2 ixD (bVar 1) (fK (.int 0))) (f2 mulD (f2 mulD (f2 ixD (bVar 4) (bVar 5)) (f2 ixD (bVar 1) (fK (.int 1)))) (f2 ixD (bVar 3) (bVar 5))))) (fVar 5)
      [.val c.d, .val (lowD p q), .bor (.list (stL ls)), .val (dS (cR (cnt (inS ls) c))), .val (dS (sR c.ss)), .no] ((cnt (inS ls) c).map fun t => .str t.1) = some ((overC p q (inS ls) c).map fun t => .str t.1) := by
    unfold overC
    refine compL_ofIf fun t ht => ⟨_, rfl, ?_, fun _ => by simp only [e_run, e_seq, seq_nx, seq_rt, seq_none, e_skip, e_set, e_own, nxK_some, vK_some, oK_some, e_ret, rtK_some, e_if, ifK_some, e_fVar, e_bVar, va_val, vb_val, vb_own, vb_bor, at_0, at_S, set_0, set_S, e_K, e_f1, o1_some, e_f2, o2_some, e_and, and_t, and_f, and_b, e_or, or_b, e_tOf, to_b, e_tAnd, tand_b, e_tOr, tor_b, e_tNot, not_b, e_tYes, e_fIf, fif_b, e_nil, e_cons, cons_some, e_tup, tup_some, e_lst, lst_some, e_call, call_some, e_m1, e_m2, e_sSeq, seqs_l, seqs_t, seqs_s, e_for, for_some, e_asg, tg_some, e_gN, e_gT2, e_gT3, e_frz, frz_own, e_retOwn, ch_b, e_lc, co_some, lc_some, wipe_nil, wipe_cons, end_rt, end_nx, pt_none, pt_some, int_some, e_cut, cut_l, cut_t, e_app, e_sRng, pad_0, sl_f, sl_t, sl_nil, add_i, sub_i, lt_i, le_i, gt_i, ge_i, neg_i, not_d, len_l, len_t, ix_l, ix_t, max2_i, min2_i, tup_l, tup_t, lst_l, lst_t, rev_l, rev_t, bool_i, bool_b, int_b, isn_n, e_chain, e_par, e_m3, List.length_cons, List.length_nil, List.replicate, List.cons_append, List.nil_append, Option.map_some, Nat.reduceAdd, Nat.reduceSub, Nat.zero_add, if_true, if_false, ite_true, ite_false, Bool.false_eq_true, reduceCtorEq, decide_true, decide_false, not_true, not_false_iff, Bool.not_true, Bool.not_false, Bool.and_true, Bool.true_and, Bool.and_false, Bool.false_and, Bool.or_true, Bool.true_or, Bool.or_false, Bool.false_or]⟩
    have m1 : (t.1, PyData.int t.2.2) ∈ cR (cnt (inS ls) c) := List.mem_map.mpr ⟨t, ht, rfl⟩
    have i1 : ixD (dS (cR (cnt (inS ls) c))) (.str t.1) = some (.int t.2.2) := ixS_ok (by rw [cR_names]; exact (cnt_sub (inS ls) c).nodup h.nd) m1
    have m2 : (t.1, PyData.int t.2.1) ∈ sR c.ss := List.mem_map.mpr ⟨_, (cnt_in ht).1, rfl⟩
    have i2 : ixD (dS (sR c.ss)) (.str t.1) = some (.int t.2.1) := ixS_ok (by rw [sR_names]; exact h.nd) m2
    have kb := cnt_small h ht
    have t1 : mulD (.int t.2.1) (.int q0) = some (.int (t.2.1 * q0)) := mul_ok (Or.inr (by omega))
    have t2 : mulD (.int (t.2.1 * q0)) (.int t.2.2) = some (.int (t.2.1 * q0 * t.2.2)) := mul_ok (Or.inr (by omega))
    have r := ratio_le (x := t.2.1 * t.2.2) g2 hq g4
    have ea : t.2.1 * q0 * (t.2.2 : Int) = t.2.1 * t.2.2 * q0 := by rw [Int.mul_assoc, Int.mul_comm q0, ← Int.mul_assoc]
    have eb : t.2.1 * (q * (t.2.2 : Int)) = t.2.1 * t.2.2 * q := by rw [Int.mul_comm q, ← Int.mul_assoc]
    rw [e]
    simp only [ldD]
    simp only [e_run, e_seq, seq_nx, seq_rt, seq_none, e_skip, e_set, e_own, nxK_some, vK_some, oK_some, e_ret, rtK_some, e_if, ifK_some, e_fVar, e_bVar, va_val, vb_val, vb_own, vb_bor, at_0, at_S, set_0, set_S, e_K, e_f1, o1_some, e_f2, o2_some, e_and, and_t, and_f, and_b, e_or, or_b, e_tOf, to_b, e_tAnd, tand_b, e_tOr, tor_b, e_tNot, not_b, e_tYes, e_fIf, fif_b, e_nil, e_cons, cons_some, e_tup, tup_some, e_lst, lst_some, e_call, call_some, e_m1, e_m2, e_sSeq, seqs_l, seqs_t, seqs_s, e_for, for_some, e_asg, tg_some, e_gN, e_gT2, e_gT3, e_frz, frz_own, e_retOwn, ch_b, e_lc, co_some, lc_some, wipe_nil, wipe_cons, end_rt, end_nx, pt_none, pt_some, int_some, e_cut, cut_l, cut_t, e_app, e_sRng, pad_0, sl_f, sl_t, sl_nil, add_i, sub_i, lt_i, le_i, gt_i, ge_i, neg_i, not_d, len_l, len_t, ix_l, ix_t, max2_i, min2_i, tup_l, tup_t, lst_l, lst_t, rev_l, rev_t, bool_i, bool_b, int_b, isn_n, e_chain, e_par, e_m3, List.length_cons, List.length_nil, List.replicate, List.cons_append, List.nil_append, Option.map_some, Nat.reduceAdd, Nat.reduceSub, Nat.zero_add, if_true, if_false, ite_true, ite_false, Bool.false_eq_true, reduceCtorEq, decide_true, decide_false, not_true, not_false_iff, Bool.not_true, Bool.not_false, Bool.and_true, Bool.true_and, Bool.and_false, Bool.false_and, Bool.or_true, Bool.true_or, Bool.or_false, Bool.false_or, i1, i2, at_two0, at_two1, t1, t2]
    congr 1
    rw [decide_eq_decide, ea, eb]
    omega
  have hl := overN_len (p := p) (q := q) (S := inS ls) h
  have hf : fitsL ((overC p q (inS ls) c).map fun t => PyData.str t.1).length = true := fitsL_small (by rw [List.length_map]; omega)
  have e4 : ((overC p q (inS ls) c).map fun t => PyData.str t.1) = stL ((overC p q (inS ls) c).map (·.1)) := by simp [stL]
  have hs := sort_strs (xs := (overC p q (inS ls) c).map (·.1)) (by rw [List.length_map]; omega)
  have hsq := seqs_cR (cnt (inS ls) c)
  have hcn := law_counts_fit (ls := ls) h
  rw [e4] at hf hc
  simp only [e_run, e_seq, seq_nx, seq_rt, seq_none, e_skip, e_set, e_own, nxK_some, vK_some, oK_some, e_ret, rtK_some, e_if, ifK_some, e_fVar, e_bVar, va_val, vb_val, vb_own, vb_bor, at_0, at_S, set_0, set_S, e_K, e_f1, o1_some, e_f2, o2_some, e_and, and_t, and_f, and_b, e_or, or_b, e_tOf, to_b, e_tAnd, tand_b, e_tOr, tor_b, e_tNot, not_b, e_tYes, e_fIf, fif_b, e_nil, e_cons, cons_some, e_tup, tup_some, e_lst, lst_some, e_call, call_some, e_m1, e_m2, e_sSeq, seqs_l, seqs_t, seqs_s, e_for, for_some, e_asg, tg_some, e_gN, e_gT2, e_gT3, e_frz, frz_own, e_retOwn, ch_b, e_lc, co_some, lc_some, wipe_nil, wipe_cons, end_rt, end_nx, pt_none, pt_some, int_some, e_cut, cut_l, cut_t, e_app, e_sRng, pad_0, sl_f, sl_t, sl_nil, add_i, sub_i, lt_i, le_i, gt_i, ge_i, neg_i, not_d, len_l, len_t, ix_l, ix_t, max2_i, min2_i, tup_l, tup_t, lst_l, lst_t, rev_l, rev_t, bool_i, bool_b, int_b, isn_n, e_chain, e_par, e_m3, List.length_cons, List.length_nil, List.replicate, List.cons_append, List.nil_append, Option.map_some, Nat.reduceAdd, Nat.reduceSub, Nat.zero_add, if_true, if_false, ite_true, ite_false, Bool.false_eq_true, reduceCtorEq, decide_true, decide_false, not_true, not_false_iff, Bool.not_true, Bool.not_false, Bool.and_true, Bool.true_and, Bool.and_false, Bool.false_and, Bool.or_true, Bool.true_or, Bool.or_false, Bool.false_or, Mi.m_law_over, Mi.G_law_over, hcn, law_strands_fit h, hd, hsq, hc, hf, hs]
  rfl
/-! ### breaking, time by time -/
/-- what holds on under a load and breaks never -/
theorem stab_out {p q : Int} {T S : Lot} {c : Cd} (hq : 0 < q) (hp : 0 ≤ p) (nd : (nms c).Nodup) (st : Stable p q T c) (hS : ∀ x ∈ nms c, T x = true → S x = true) {t : Ct} (ht : t ∈ overC p q S c) : T t.1 = false := by
  obtain ⟨h1, h2⟩ := List.mem_filter.mp ht
  have h2 := of_decide_eq_true h2
  cases hh : T t.1 with
  | false => rfl
  | true =>
    obtain ⟨k0, hk0⟩ := cnt_has (S := T) (cnt_in h1).1 hh
    have h3 := st _ hk0
    obtain ⟨k, k1, k2⟩ := cnt_mono c _ S hS _ hk0
    have e := nodup_uniq (cnt_nodup (S := S) nd) k2 h1 rfl
    have ek : t.2.2 = k := by rw [← e]
    have kp := cnt_pos _ c _ hk0
    have n0 : 0 ≤ t.2.1 := by
      rcases Int.lt_or_le t.2.1 0 with hn | hn
      · have : t.2.1 * (q * (k0 : Int)) < 0 := Int.mul_neg_of_neg_of_pos hn (Int.mul_pos hq (by simp only at kp; omega))
        simp only at h3
        omega
      · exact hn
    have h4 : t.2.1 * (q * (k0 : Int)) ≤ t.2.1 * (q * (t.2.2 : Int)) := Int.mul_le_mul_of_nonneg_left (Int.mul_le_mul_of_nonneg_left (by rw [ek]; simp only at k1; omega) (Int.le_of_lt hq)) n0
    simp only at h3
    omega
def less (S : Lot) (xs : List Str) : Lot := fun x => S x && !xs.contains x
def left (S : Lot) (c : Cd) : Nat := ((nms c).filter S).length
theorem left_less {S : Lot} {c : Cd} {xs : List Str} {x : Str} (h1 : x ∈ nms c) (h2 : S x = true) (h3 : x ∈ xs) : left (less S xs) c < left S c := by
  unfold left less
  have e : (nms c).filter (fun y => S y && !xs.contains y) = ((nms c).filter S).filter fun y => !xs.contains y := by
    rw [List.filter_filter]
    exact List.filter_congr fun y _ => by rw [Bool.and_comm]
  rw [e]
  have hm : x ∈ (nms c).filter S := List.mem_filter.mpr ⟨h1, h2⟩
  rcases Nat.lt_or_eq_of_le (List.length_filter_le (fun y => !xs.contains y) ((nms c).filter S)) with h | h
  · exact h
  · have := (List.length_filter_eq_length_iff.mp h) x hm
    simp [h3] at this
theorem overN_less {p q : Int} {S : Lot} {c : Cd} (h : overN p q S c ≠ []) : left (less S (overN p q S c)) c < left S c := by
  cases e : overN p q S c with
  | nil => exact absurd e h
  | cons x r =>
    have hx : x ∈ overN p q S c := by rw [e]; exact List.mem_cons_self
    obtain ⟨h1, h2⟩ := overN_mem hx
    exact left_less h1 h2 List.mem_cons_self
theorem overN_nil {p q : Int} {S : Lot} {c : Cd} : overN p q S c = [] ↔ Stable p q S c := by
  rw [← over_nil]
  unfold overN
  constructor
  · intro h
    have := (ssort_perm ((overC p q S c).map (·.1))).length_eq
    rw [h, List.length_map] at this
    exact List.length_eq_zero_iff.mp this.symm
  · intro h; rw [h]; simp [ssort]
theorem overN_zero {p q : Int} {S : Lot} {c : Cd} (h : left S c = 0) : overN p q S c = [] := by
  cases e : overN p q S c with
  | nil => rfl
  | cons x r =>
    have hx : x ∈ overN p q S c := by rw [e]; exact List.mem_cons_self
    obtain ⟨h1, h2⟩ := overN_mem hx
    have : x ∈ (nms c).filter S := List.mem_filter.mpr ⟨h1, h2⟩
    unfold left at h
    rw [List.length_eq_zero_iff.mp h] at this
    cases this
/-- time by time all that bear too much -/
def rnds (p q : Int) (c : Cd) : Nat → Lot → List (List Str)
  | 0, _ => []
  | n + 1, S => if overN p q S c = [] then [] else overN p q S c :: rnds p q c n (less S (overN p q S c))
def fin (p q : Int) (c : Cd) : Nat → Lot → Lot
  | 0, S => S
  | n + 1, S => if overN p q S c = [] then S else fin p q c n (less S (overN p q S c))
theorem fin_sub {p q : Int} {c : Cd} : ∀ (n : Nat) (S : Lot) (x : Str), fin p q c n S x = true → S x = true
  | 0, _, _, h => h
  | n + 1, S, x, h => by
    simp only [fin] at h
    split at h
    · exact h
    · have := fin_sub n _ x h
      simp [less] at this
      exact this.1
theorem fin_stable {p q : Int} {c : Cd} : ∀ (n : Nat) (S : Lot), left S c ≤ n → overN p q (fin p q c n S) c = []
  | 0, S, h => overN_zero (Nat.le_zero.mp h)
  | n + 1, S, h => by
    simp only [fin]
    split
    · assumption
    · rename_i hne
      exact fin_stable n _ (by have := overN_less hne; omega)
theorem fin_great {p q : Int} {c : Cd} (hq : 0 < q) (hp : 0 ≤ p) (nd : (nms c).Nodup) {T : Lot} (st : Stable p q T c) : ∀ (n : Nat) (S : Lot), (∀ x ∈ nms c, T x = true → S x = true) → ∀ x ∈ nms c, T x = true → fin p q c n S x = true
  | 0, S, h, x, hx, hT => h x hx hT
  | n + 1, S, h, x, hx, hT => by
    simp only [fin]
    split
    · exact h x hx hT
    · refine fin_great hq hp nd st n _ (fun y hy hTy => ?_) x hx hT
      simp only [less, Bool.and_eq_true, Bool.not_eq_true']
      refine ⟨h y hy hTy, ?_⟩
      cases e : (overN p q S c).contains y with
      | false => rfl
      | true =>
        have hy2 : y ∈ overN p q S c := by simpa using e
        obtain ⟨t, ht, rfl⟩ := List.mem_map.mp (ssort_mem.mp hy2)
        have := stab_out hq hp nd st h ht
        rw [hTy] at this; cases this
/-- of all strands those that hold are left -/
theorem fin_all {p q : Int} {c : Cd} (ok : c.ok) (hq : 0 < q) (hp : 0 ≤ p) (nd : (nms c).Nodup) {S : Lot} (hS : ∀ x ∈ nms c, holdS p q c x = true → S x = true) {n : Nat} (hn : left S c ≤ n) : ∀ x ∈ nms c, fin p q c n S x = holdS p q c x :=
  left_is ok hq hp (fin_great hq hp nd (cnt_hold c p q ok hq hp nd).2 n S hS) (over_nil.mpr (overN_nil.mp (fin_stable n S hn)))
theorem left_le (S : Lot) {c : Cd} (h : Fit c) : left S c ≤ 8 := by
  have := List.length_filter_le S (nms c)
  have := h.len
  unfold left
  unfold nms at *
  rw [List.length_map] at *
  omega
end Fact
set_option maxRecDepth 100000
/-! Breaking by the program and by the law. -/
namespace Fact
open PySem Pu
theorem noDict_stL (xs : List Str) : noDicts (stL xs) = true := noDicts_of fun d hd => by obtain ⟨x, _, rfl⟩ := List.mem_map.mp hd; rfl
theorem ne_stL (xs : List Str) : neD (.list (stL xs)) (.list []) = some (.bool (!xs.isEmpty)) := by
  rw [ne_nil (noDict_stL xs)]
  unfold stL
  rw [List.isEmpty_map]
theorem eq_nil {ds : List D} (h : noDicts ds = true) : eqD (.list ds) (.list []) = some (.bool ds.isEmpty) := by
  show ((if (noDict (.list ds) && noDict (.list []) && decide (min (PyData.list ds).depth (PyData.list []).depth ≤ 64)) = true then some (PyData.eqv (.list ds) (.list [])) else none).map PyData.bool) = _
  have hd : min (PyData.list ds).depth (PyData.list []).depth ≤ 64 := Nat.le_trans (Nat.min_le_right _ _) (by decide)
  have hn : noDict (.list ds) = true := h
  rw [if_pos (by rw [hn, decide_eq_true hd]; rfl)]
  cases ds <;> rfl
theorem eq_stL (xs : List Str) : eqD (.list (stL xs)) (.list []) = some (.bool xs.isEmpty) := by
  rw [eq_nil (noDict_stL xs)]
  unfold stL
  rw [List.isEmpty_map]
theorem stL_len (xs : List Str) : (stL xs).length = xs.length := by simp [stL]
theorem inS_less (ls o : List Str) : inS (ls.filter fun x => !o.contains x) = less (inS ls) o := by
  funext x
  unfold inS less
  rw [Bool.eq_iff_iff]
  simp [List.mem_filter]
theorem notS_less (bs o : List Str) : notS (bs ++ o) = less (notS bs) o := by
  funext x
  unfold notS less
  rw [Bool.eq_iff_iff]
  simp [List.mem_append]
theorem inS_perm {a b : List Str} (h : a.Perm b) : inS a = inS b := by
  funext x
  unfold inS
  rw [Bool.eq_iff_iff]
  simp [h.mem_iff]
def tupS (r : List Str) : D := .tuple (stL r)
/-! ### all at once -/
def finG {σ : Type} (L : σ → Lot) (nx : σ → List Str → σ) (p q : Int) (c : Cd) : Nat → σ → σ
  | 0, s => s
  | n + 1, s => if overN p q (L s) c = [] then s else finG L nx p q c n (nx s (overN p q (L s) c))
theorem while_over {σ : Type} {L : σ → Lot} {nx : σ → List Str → σ} {p q : Int} {c : Cd} {t : FB} {body : G} {mk : σ → List (List Str) → Rho} {M : Nat} {Iv : σ → List (List Str) → Prop}
    (hL : ∀ s o, L (nx s o) = less (L s) o) (ht : ∀ s rs, Iv s rs → t (mk s rs) = some (!(overN p q (L s) c).isEmpty))
    (hb : ∀ s rs, Iv s rs → rs.length < M → overN p q (L s) c ≠ [] → body (mk s rs) = some (.nx (mk (nx s (overN p q (L s) c)) (rs ++ [overN p q (L s) c]))) ∧ Iv (nx s (overN p q (L s) c)) (rs ++ [overN p q (L s) c])) :
    ∀ (n N : Nat) (s : σ) (rs : List (List Str)), Iv s rs → left (L s) c ≤ n → n < N → rs.length + n ≤ M → whileN t body N (mk s rs) = some (.nx (mk (finG L nx p q c n s) (rs ++ rnds p q c n (L s))))
  | n, 0, s, rs, _, _, h, _ => absurd h (Nat.not_lt_zero _)
  | 0, N + 1, s, rs, hI, hl, _, _ => by
    have h0 := overN_zero (p := p) (q := q) (Nat.le_zero.mp hl)
    simp only [whileN, ht s rs hI, h0, List.isEmpty_nil, Bool.not_true, Option.bind_some, Bool.false_eq_true, if_false, finG, rnds, List.append_nil]
  | n + 1, N + 1, s, rs, hI, hl, hN, hM => by
    by_cases h0 : overN p q (L s) c = []
    · simp only [whileN, ht s rs hI, h0, List.isEmpty_nil, Bool.not_true, Option.bind_some, Bool.false_eq_true, if_false, finG, rnds, List.append_nil, if_true]
    · obtain ⟨h1, h2⟩ := hb s rs hI (by omega) h0
      have hlt := overN_less h0
      rw [← hL] at hlt
      have ih := while_over hL ht hb n N (nx s (overN p q (L s) c)) (rs ++ [overN p q (L s) c]) h2 (by omega) (by omega) (by simp; omega)
      have he : (overN p q (L s) c).isEmpty = false := by simpa using h0
      simp only [whileN, ht s rs hI, he, Bool.not_false, Option.bind_some, if_true, h1, ih, finG, rnds, h0, if_false, hL, List.append_assoc, List.singleton_append]
theorem finG_inS {p q : Int} {c : Cd} : ∀ (n : Nat) (ls : List Str), finG inS (fun ls o => ls.filter fun x => !o.contains x) p q c n ls = ls.filter (fin p q c n (inS ls))
  | 0, ls => by
    simp only [finG, fin]
    exact (List.filter_eq_self.mpr fun x hx => by unfold inS; simpa using hx).symm
  | n + 1, ls => by
    by_cases h : overN p q (inS ls) c = []
    · simp only [finG, fin, h, if_true]
      exact (List.filter_eq_self.mpr fun x hx => by unfold inS; simpa using hx).symm
    · simp only [finG, fin, h, if_false]
      rw [finG_inS n, List.filter_filter, inS_less]
      refine List.filter_congr fun x _ => ?_
      cases e : fin p q c n (less (inS ls) (overN p q (inS ls) c)) x with
      | false => rfl
      | true =>
        have := fin_sub n _ x e
        simp only [less, Bool.and_eq_true] at this
        rw [this.2]; rfl
def lastS (rs : List (List Str)) : Slot := match rs.getLast? with
  | none => .no
  | some o => .val (.list (stL o))
theorem law_held_ok {c : Cd} {p q : Int} {ls : List Str} (h : Fit c) (hp : 0 ≤ p) (hq : 0 < q) (hb : q < 10000) (hl : ls.length ≤ 1000) :
    Mi.m_law_held [c.d, lowD p q, .list (stL ls)] = some (.tuple (stL ((ssort ls).filter (fin p q c 9 (inS ls))))) := by
  have hs := sort_strs (xs := ls) (by omega)
  have hw := while_over (L := inS) (nx := fun ls o => ls.filter fun x => !o.contains x) (p := p) (q := q) (c := c) (M := 100) (Iv := fun ls _ => ls.length ≤ 1000)
    (t := tOf (f2 neD (fCall Mi.m_law_over [fVar 0, fVar 1, bVar 2]) (fLst []))) (body := Mi.B_law_held_1 Mi.m_law_over)
    (mk := fun ls rs => [.val c.d, .val (lowD p q), .val (.list (stL ls)), lastS rs, .no]) inS_less
    (fun ls rs _ => by simp only [e_run, e_seq, seq_nx, seq_rt, seq_none, e_skip, e_set, e_own, nxK_some, vK_some, oK_some, e_ret, rtK_some, e_if, ifK_some, e_fVar, e_bVar, va_val, vb_val, vb_own, vb_bor, at_0, at_S, set_0, set_S, e_K, e_f1, o1_some, e_f2, o2_some, e_and, and_t, and_f, and_b, e_or, or_b, e_tOf, to_b, e_tAnd, tand_b, e_tOr, tor_b, e_tNot, not_b, e_tYes, e_fIf, fif_b, e_nil, e_cons, cons_some, e_tup, tup_some, e_lst, lst_some, e_call, call_some, e_m1, e_m2, e_sSeq, seqs_l, seqs_t, seqs_s, e_for, for_some, e_asg, tg_some, e_gN, e_gT2, e_gT3, e_frz, frz_own, e_retOwn, ch_b, e_lc, co_some, lc_some, wipe_nil, wipe_cons, end_rt, end_nx, pt_none, pt_some, int_some, e_cut, cut_l, cut_t, e_app, e_sRng, pad_0, sl_f, sl_t, sl_nil, add_i, sub_i, lt_i, le_i, gt_i, ge_i, neg_i, not_d, len_l, len_t, ix_l, ix_t, max2_i, min2_i, tup_l, tup_t, lst_l, lst_t, rev_l, rev_t, bool_i, bool_b, int_b, isn_n, e_chain, e_par, e_m3, List.length_cons, List.length_nil, List.replicate, List.cons_append, List.nil_append, Option.map_some, Nat.reduceAdd, Nat.reduceSub, Nat.zero_add, if_true, if_false, ite_true, ite_false, Bool.false_eq_true, reduceCtorEq, decide_true, decide_false, not_true, not_false_iff, Bool.not_true, Bool.not_false, Bool.and_true, Bool.true_and, Bool.and_false, Bool.false_and, Bool.or_true, Bool.true_or, Bool.or_false, Bool.false_or, law_over_ok h hp hq hb, ne_stL]) (fun ls rs hI hr hne => by
      refine ⟨?_, Nat.le_trans (List.length_filter_le _ _) hI⟩
      have hc : compL (gN 4) (tOf (f2 notInD (bVar 4) (bVar 3))) (fVar 4) [.val c.d, .val (lowD p q), .val (.list (stL ls)), .val (.list (stL (overN p q (inS ls) c))), .no] (stL ls) = some (stL (ls.filter fun x => !(overN p q (inS ls) c).contains x)) := by
        unfold stL
        exact compL_ofIf fun x _ => ⟨_, rfl, by simp only [e_run, e_seq, seq_nx, seq_rt, seq_none, e_skip, e_set, e_own, nxK_some, vK_some, oK_some, e_ret, rtK_some, e_if, ifK_some, e_fVar, e_bVar, va_val, vb_val, vb_own, vb_bor, at_0, at_S, set_0, set_S, e_K, e_f1, o1_some, e_f2, o2_some, e_and, and_t, and_f, and_b, e_or, or_b, e_tOf, to_b, e_tAnd, tand_b, e_tOr, tor_b, e_tNot, not_b, e_tYes, e_fIf, fif_b, e_nil, e_cons, cons_some, e_tup, tup_some, e_lst, lst_some, e_call, call_some, e_m1, e_m2, e_sSeq, seqs_l, seqs_t, seqs_s, e_for, for_some, e_asg, tg_some, e_gN, e_gT2, e_gT3, e_frz, frz_own, e_retOwn, ch_b, e_lc, co_some, lc_some, wipe_nil, wipe_cons, end_rt, end_nx, pt_none, pt_some, int_some, e_cut, cut_l, cut_t, e_app, e_sRng, pad_0, sl_f, sl_t, sl_nil, add_i, sub_i, lt_i, le_i, gt_i, ge_i, neg_i, not_d, len_l, len_t, ix_l, ix_t, max2_i, min2_i, tup_l, tup_t, lst_l, lst_t, rev_l, rev_t, bool_i, bool_b, int_b, isn_n, e_chain, e_par, e_m3, List.length_cons, List.length_nil, List.replicate, List.cons_append, List.nil_append, Option.map_some, Nat.reduceAdd, Nat.reduceSub, Nat.zero_add, if_true, if_false, ite_true, ite_false, Bool.false_eq_true, reduceCtorEq, decide_true, decide_false, not_true, not_false_iff, Bool.not_true, Bool.not_false, Bool.and_true, Bool.true_and, Bool.and_false, Bool.false_and, Bool.or_true, Bool.true_or, Bool.or_false, Bool.false_or, notin_l x (overN p q (inS ls) c), show List.map PyData.str (overN p q (inS ls) c) = stL (overN p q (inS ls) c) from rfl], fun _ => by simp only [e_run, e_seq, seq_nx, seq_rt, seq_none, e_skip, e_set, e_own, nxK_some, vK_some, oK_some, e_ret, rtK_some, e_if, ifK_some, e_fVar, e_bVar, va_val, vb_val, vb_own, vb_bor, at_0, at_S, set_0, set_S, e_K, e_f1, o1_some, e_f2, o2_some, e_and, and_t, and_f, and_b, e_or, or_b, e_tOf, to_b, e_tAnd, tand_b, e_tOr, tor_b, e_tNot, not_b, e_tYes, e_fIf, fif_b, e_nil, e_cons, cons_some, e_tup, tup_some, e_lst, lst_some, e_call, call_some, e_m1, e_m2, e_sSeq, seqs_l, seqs_t, seqs_s, e_for, for_some, e_asg, tg_some, e_gN, e_gT2, e_gT3, e_frz, frz_own, e_retOwn, ch_b, e_lc, co_some, lc_some, wipe_nil, wipe_cons, end_rt, end_nx, pt_none, pt_some, int_some, e_cut, cut_l, cut_t, e_app, e_sRng, pad_0, sl_f, sl_t, sl_nil, add_i, sub_i, lt_i, le_i, gt_i, ge_i, neg_i, not_d, len_l, len_t, ix_l, ix_t, max2_i, min2_i, tup_l, tup_t, lst_l, lst_t, rev_l, rev_t, bool_i, bool_b, int_b, isn_n, e_chain, e_par, e_m3, List.length_cons, List.length_nil, List.replicate, List.cons_append, List.nil_append, Option.map_some, Nat.reduceAdd, Nat.reduceSub, Nat.zero_add, if_true, if_false, ite_true, ite_false, Bool.false_eq_true, reduceCtorEq, decide_true, decide_false, not_true, not_false_iff, Bool.not_true, Bool.not_false, Bool.and_true, Bool.true_and, Bool.and_false, Bool.false_and, Bool.or_true, Bool.true_or, Bool.or_false, Bool.false_or]⟩
      have hf : fitsL (stL (ls.filter fun x => !(overN p q (inS ls) c).contains x)).length = true := fitsL_small (by
        rw [stL_len]; exact Nat.le_trans (List.length_filter_le _ _) (by omega))
      have hla : lastS (rs ++ [overN p q (inS ls) c]) = .val (.list (stL (overN p q (inS ls) c))) := by simp [lastS]
      rw [hla]
      simp only [e_run, e_seq, seq_nx, seq_rt, seq_none, e_skip, e_set, e_own, nxK_some, vK_some, oK_some, e_ret, rtK_some, e_if, ifK_some, e_fVar, e_bVar, va_val, vb_val, vb_own, vb_bor, at_0, at_S, set_0, set_S, e_K, e_f1, o1_some, e_f2, o2_some, e_and, and_t, and_f, and_b, e_or, or_b, e_tOf, to_b, e_tAnd, tand_b, e_tOr, tor_b, e_tNot, not_b, e_tYes, e_fIf, fif_b, e_nil, e_cons, cons_some, e_tup, tup_some, e_lst, lst_some, e_call, call_some, e_m1, e_m2, e_sSeq, seqs_l, seqs_t, seqs_s, e_for, for_some, e_asg, tg_some, e_gN, e_gT2, e_gT3, e_frz, frz_own, e_retOwn, ch_b, e_lc, co_some, lc_some, wipe_nil, wipe_cons, end_rt, end_nx, pt_none, pt_some, int_some, e_cut, cut_l, cut_t, e_app, e_sRng, pad_0, sl_f, sl_t, sl_nil, add_i, sub_i, lt_i, le_i, gt_i, ge_i, neg_i, not_d, len_l, len_t, ix_l, ix_t, max2_i, min2_i, tup_l, tup_t, lst_l, lst_t, rev_l, rev_t, bool_i, bool_b, int_b, isn_n, e_chain, e_par, e_m3, List.length_cons, List.length_nil, List.replicate, List.cons_append, List.nil_append, Option.map_some, Nat.reduceAdd, Nat.reduceSub, Nat.zero_add, if_true, if_false, ite_true, ite_false, Bool.false_eq_true, reduceCtorEq, decide_true, decide_false, not_true, not_false_iff, Bool.not_true, Bool.not_false, Bool.and_true, Bool.true_and, Bool.and_false, Bool.false_and, Bool.or_true, Bool.true_or, Bool.or_false, Bool.false_or, Mi.B_law_held_1, law_over_ok h hp hq hb, hc, hf])
    9 1000000000000000000000000 (ssort ls) [] (by rw [(ssort_perm ls).length_eq]; exact hl) (Nat.le_trans (left_le _ h) (by decide)) (by decide) (by decide)
  rw [finG_inS, inS_perm (ssort_perm ls)] at hw
  simp only [lastS, List.getLast?_nil] at hw
  simp only [e_run, e_seq, seq_nx, seq_rt, seq_none, e_skip, e_set, e_own, nxK_some, vK_some, oK_some, e_ret, rtK_some, e_if, ifK_some, e_fVar, e_bVar, va_val, vb_val, vb_own, vb_bor, at_0, at_S, set_0, set_S, e_K, e_f1, o1_some, e_f2, o2_some, e_and, and_t, and_f, and_b, e_or, or_b, e_tOf, to_b, e_tAnd, tand_b, e_tOr, tor_b, e_tNot, not_b, e_tYes, e_fIf, fif_b, e_nil, e_cons, cons_some, e_tup, tup_some, e_lst, lst_some, e_call, call_some, e_m1, e_m2, e_sSeq, seqs_l, seqs_t, seqs_s, e_for, for_some, e_asg, tg_some, e_gN, e_gT2, e_gT3, e_frz, frz_own, e_retOwn, ch_b, e_lc, co_some, lc_some, wipe_nil, wipe_cons, end_rt, end_nx, pt_none, pt_some, int_some, e_cut, cut_l, cut_t, e_app, e_sRng, pad_0, sl_f, sl_t, sl_nil, add_i, sub_i, lt_i, le_i, gt_i, ge_i, neg_i, not_d, len_l, len_t, ix_l, ix_t, max2_i, min2_i, tup_l, tup_t, lst_l, lst_t, rev_l, rev_t, bool_i, bool_b, int_b, isn_n, e_chain, e_par, e_m3, List.length_cons, List.length_nil, List.replicate, List.cons_append, List.nil_append, Option.map_some, Nat.reduceAdd, Nat.reduceSub, Nat.zero_add, if_true, if_false, ite_true, ite_false, Bool.false_eq_true, reduceCtorEq, decide_true, decide_false, not_true, not_false_iff, Bool.not_true, Bool.not_false, Bool.and_true, Bool.true_and, Bool.and_false, Bool.false_and, Bool.or_true, Bool.true_or, Bool.or_false, Bool.false_or, Mi.m_law_held, Mi.G_law_held, hs, gWhile, hw]
theorem rnds_congr {p q : Int} {c : Cd} : ∀ (n : Nat) {S T : Lot}, (∀ x ∈ nms c, S x = T x) → rnds p q c n S = rnds p q c n T
  | 0, _, _, _ => rfl
  | n + 1, S, T, h => by
    simp only [rnds, overN_congr (p := p) (q := q) h]
    split
    · rfl
    · rw [rnds_congr n fun x hx => ?_]
      simp only [less, h x hx]
theorem inS_names {c : Cd} : ∀ x ∈ nms c, inS (ssort (nms c)) x = notS [] x := fun x hx => by
  simp [inS, notS, ssort_mem, hx]
theorem nms_len {c : Cd} (h : Fit c) : (nms c).length ≤ 8 := by unfold nms; rw [List.length_map]; exact h.len
theorem law_rounds_ok {c : Cd} {p q : Int} (h : Fit c) (hp : 0 ≤ p) (hq : 0 < q) (hb : q < 10000) :
    Mi.m_law_rounds [c.d, lowD p q] = some (.list ((rnds p q c 9 (notS [])).map tupS)) := by
  have hw := while_over (L := inS) (nx := fun ls o => ls.filter fun x => !o.contains x) (p := p) (q := q) (c := c) (M := 100) (Iv := fun ls _ => ls.length ≤ 1000)
    (t := tOf (f2 neD (fCall Mi.m_law_over [fVar 0, fVar 1, bVar 2]) (fLst []))) (body := Mi.B_law_rounds_1 Mi.m_law_over)
    (mk := fun ls rs => [.val c.d, .val (lowD p q), .val (.list (stL ls)), .own (.list (rs.map tupS)), .no]) inS_less
    (fun ls rs _ => by simp only [e_run, e_seq, seq_nx, seq_rt, seq_none, e_skip, e_set, e_own, nxK_some, vK_some, oK_some, e_ret, rtK_some, e_if, ifK_some, e_fVar, e_bVar, va_val, vb_val, vb_own, vb_bor, at_0, at_S, set_0, set_S, e_K, e_f1, o1_some, e_f2, o2_some, e_and, and_t, and_f, and_b, e_or, or_b, e_tOf, to_b, e_tAnd, tand_b, e_tOr, tor_b, e_tNot, not_b, e_tYes, e_fIf, fif_b, e_nil, e_cons, cons_some, e_tup, tup_some, e_lst, lst_some, e_call, call_some, e_m1, e_m2, e_sSeq, seqs_l, seqs_t, seqs_s, e_for, for_some, e_asg, tg_some, e_gN, e_gT2, e_gT3, e_frz, frz_own, e_retOwn, ch_b, e_lc, co_some, lc_some, wipe_nil, wipe_cons, end_rt, end_nx, pt_none, pt_some, int_some, e_cut, cut_l, cut_t, e_app, e_sRng, pad_0, sl_f, sl_t, sl_nil, add_i, sub_i, lt_i, le_i, gt_i, ge_i, neg_i, not_d, len_l, len_t, ix_l, ix_t, max2_i, min2_i, tup_l, tup_t, lst_l, lst_t, rev_l, rev_t, bool_i, bool_b, int_b, isn_n, e_chain, e_par, e_m3, List.length_cons, List.length_nil, List.replicate, List.cons_append, List.nil_append, Option.map_some, Nat.reduceAdd, Nat.reduceSub, Nat.zero_add, if_true, if_false, ite_true, ite_false, Bool.false_eq_true, reduceCtorEq, decide_true, decide_false, not_true, not_false_iff, Bool.not_true, Bool.not_false, Bool.and_true, Bool.true_and, Bool.and_false, Bool.false_and, Bool.or_true, Bool.true_or, Bool.or_false, Bool.false_or, law_over_ok h hp hq hb, ne_stL]) (fun ls rs hI hr hne => by
      refine ⟨?_, Nat.le_trans (List.length_filter_le _ _) hI⟩
      have hat : L2.atI (rs.map tupS ++ [tupS (overN p q (inS ls) c)]) (-1) = some (tupS (overN p q (inS ls) c)) := at_last (by simp)
      have hc : compL (gN 4) (tOf (f2 notInD (bVar 4) (f2 ixD (bVar 3) (f1 negD (fK (.int 1)))))) (fVar 4) [.val c.d, .val (lowD p q), .val (.list (stL ls)), .own (.list (rs.map tupS ++ [tupS (overN p q (inS ls) c)])), .no] (stL ls) = some (stL (ls.filter fun x => !(overN p q (inS ls) c).contains x)) := by
        have : stL ls = ls.map PyData.str := rfl
        rw [this]
        refine compL_ofIf fun x _ => ⟨_, rfl, ?_, fun _ => by simp only [e_run, e_seq, seq_nx, seq_rt, seq_none, e_skip, e_set, e_own, nxK_some, vK_some, oK_some, e_ret, rtK_some, e_if, ifK_some, e_fVar, e_bVar, va_val, vb_val, vb_own, vb_bor, at_0, at_S, set_0, set_S, e_K, e_f1, o1_some, e_f2, o2_some, e_and, and_t, and_f, and_b, e_or, or_b, e_tOf, to_b, e_tAnd, tand_b, e_tOr, tor_b, e_tNot, not_b, e_tYes, e_fIf, fif_b, e_nil, e_cons, cons_some, e_tup, tup_some, e_lst, lst_some, e_call, call_some, e_m1, e_m2, e_sSeq, seqs_l, seqs_t, seqs_s, e_for, for_some, e_asg, tg_some, e_gN, e_gT2, e_gT3, e_frz, frz_own, e_retOwn, ch_b, e_lc, co_some, lc_some, wipe_nil, wipe_cons, end_rt, end_nx, pt_none, pt_some, int_some, e_cut, cut_l, cut_t, e_app, e_sRng, pad_0, sl_f, sl_t, sl_nil, add_i, sub_i, lt_i, le_i, gt_i, ge_i, neg_i, not_d, len_l, len_t, ix_l, ix_t, max2_i, min2_i, tup_l, tup_t, lst_l, lst_t, rev_l, rev_t, bool_i, bool_b, int_b, isn_n, e_chain, e_par, e_m3, List.length_cons, List.length_nil, List.replicate, List.cons_append, List.nil_append, Option.map_some, Nat.reduceAdd, Nat.reduceSub, Nat.zero_add, if_true, if_false, ite_true, ite_false, Bool.false_eq_true, reduceCtorEq, decide_true, decide_false, not_true, not_false_iff, Bool.not_true, Bool.not_false, Bool.and_true, Bool.true_and, Bool.and_false, Bool.false_and, Bool.or_true, Bool.true_or, Bool.or_false, Bool.false_or]⟩
        simp only [e_run, e_seq, seq_nx, seq_rt, seq_none, e_skip, e_set, e_own, nxK_some, vK_some, oK_some, e_ret, rtK_some, e_if, ifK_some, e_fVar, e_bVar, va_val, vb_val, vb_own, vb_bor, at_0, at_S, set_0, set_S, e_K, e_f1, o1_some, e_f2, o2_some, e_and, and_t, and_f, and_b, e_or, or_b, e_tOf, to_b, e_tAnd, tand_b, e_tOr, tor_b, e_tNot, not_b, e_tYes, e_fIf, fif_b, e_nil, e_cons, cons_some, e_tup, tup_some, e_lst, lst_some, e_call, call_some, e_m1, e_m2, e_sSeq, seqs_l, seqs_t, seqs_s, e_for, for_some, e_asg, tg_some, e_gN, e_gT2, e_gT3, e_frz, frz_own, e_retOwn, ch_b, e_lc, co_some, lc_some, wipe_nil, wipe_cons, end_rt, end_nx, pt_none, pt_some, int_some, e_cut, cut_l, cut_t, e_app, e_sRng, pad_0, sl_f, sl_t, sl_nil, add_i, sub_i, lt_i, le_i, gt_i, ge_i, neg_i, not_d, len_l, len_t, ix_l, ix_t, max2_i, min2_i, tup_l, tup_t, lst_l, lst_t, rev_l, rev_t, bool_i, bool_b, int_b, isn_n, e_chain, e_par, e_m3, List.length_cons, List.length_nil, List.replicate, List.cons_append, List.nil_append, Option.map_some, Nat.reduceAdd, Nat.reduceSub, Nat.zero_add, if_true, if_false, ite_true, ite_false, Bool.false_eq_true, reduceCtorEq, decide_true, decide_false, not_true, not_false_iff, Bool.not_true, Bool.not_false, Bool.and_true, Bool.true_and, Bool.and_false, Bool.false_and, Bool.or_true, Bool.true_or, Bool.or_false, Bool.false_or, hat, ix_0]
        simp only [tupS]
        simp only [e_run, e_seq, seq_nx, seq_rt, seq_none, e_skip, e_set, e_own, nxK_some, vK_some, oK_some, e_ret, rtK_some, e_if, ifK_some, e_fVar, e_bVar, va_val, vb_val, vb_own, vb_bor, at_0, at_S, set_0, set_S, e_K, e_f1, o1_some, e_f2, o2_some, e_and, and_t, and_f, and_b, e_or, or_b, e_tOf, to_b, e_tAnd, tand_b, e_tOr, tor_b, e_tNot, not_b, e_tYes, e_fIf, fif_b, e_nil, e_cons, cons_some, e_tup, tup_some, e_lst, lst_some, e_call, call_some, e_m1, e_m2, e_sSeq, seqs_l, seqs_t, seqs_s, e_for, for_some, e_asg, tg_some, e_gN, e_gT2, e_gT3, e_frz, frz_own, e_retOwn, ch_b, e_lc, co_some, lc_some, wipe_nil, wipe_cons, end_rt, end_nx, pt_none, pt_some, int_some, e_cut, cut_l, cut_t, e_app, e_sRng, pad_0, sl_f, sl_t, sl_nil, add_i, sub_i, lt_i, le_i, gt_i, ge_i, neg_i, not_d, len_l, len_t, ix_l, ix_t, max2_i, min2_i, tup_l, tup_t, lst_l, lst_t, rev_l, rev_t, bool_i, bool_b, int_b, isn_n, e_chain, e_par, e_m3, List.length_cons, List.length_nil, List.replicate, List.cons_append, List.nil_append, Option.map_some, Nat.reduceAdd, Nat.reduceSub, Nat.zero_add, if_true, if_false, ite_true, ite_false, Bool.false_eq_true, reduceCtorEq, decide_true, decide_false, not_true, not_false_iff, Bool.not_true, Bool.not_false, Bool.and_true, Bool.true_and, Bool.and_false, Bool.false_and, Bool.or_true, Bool.true_or, Bool.or_false, Bool.false_or, notin_t]
      have hf : fitsL (stL (ls.filter fun x => !(overN p q (inS ls) c).contains x)).length = true := fitsL_small (by
        rw [stL_len]; exact Nat.le_trans (List.length_filter_le _ _) (by omega))
      have hap : (rs.map tupS).length < sizeLine := by rw [List.length_map]; exact Nat.lt_trans hr (by decide)
      rw [List.map_append, List.map_cons, List.map_nil]
      have e : (PyData.tuple (stL (overN p q (inS ls) c))) = tupS (overN p q (inS ls) c) := rfl
      simp only [e_run, e_seq, seq_nx, seq_rt, seq_none, e_skip, e_set, e_own, nxK_some, vK_some, oK_some, e_ret, rtK_some, e_if, ifK_some, e_fVar, e_bVar, va_val, vb_val, vb_own, vb_bor, at_0, at_S, set_0, set_S, e_K, e_f1, o1_some, e_f2, o2_some, e_and, and_t, and_f, and_b, e_or, or_b, e_tOf, to_b, e_tAnd, tand_b, e_tOr, tor_b, e_tNot, not_b, e_tYes, e_fIf, fif_b, e_nil, e_cons, cons_some, e_tup, tup_some, e_lst, lst_some, e_call, call_some, e_m1, e_m2, e_sSeq, seqs_l, seqs_t, seqs_s, e_for, for_some, e_asg, tg_some, e_gN, e_gT2, e_gT3, e_frz, frz_own, e_retOwn, ch_b, e_lc, co_some, lc_some, wipe_nil, wipe_cons, end_rt, end_nx, pt_none, pt_some, int_some, e_cut, cut_l, cut_t, e_app, e_sRng, pad_0, sl_f, sl_t, sl_nil, add_i, sub_i, lt_i, le_i, gt_i, ge_i, neg_i, not_d, len_l, len_t, ix_l, ix_t, max2_i, min2_i, tup_l, tup_t, lst_l, lst_t, rev_l, rev_t, bool_i, bool_b, int_b, isn_n, e_chain, e_par, e_m3, List.length_cons, List.length_nil, List.replicate, List.cons_append, List.nil_append, Option.map_some, Nat.reduceAdd, Nat.reduceSub, Nat.zero_add, if_true, if_false, ite_true, ite_false, Bool.false_eq_true, reduceCtorEq, decide_true, decide_false, not_true, not_false_iff, Bool.not_true, Bool.not_false, Bool.and_true, Bool.true_and, Bool.and_false, Bool.false_and, Bool.or_true, Bool.true_or, Bool.or_false, Bool.false_or, Mi.B_law_rounds_1, law_over_ok h hp hq hb, app_some hap, e, hc, hf])
    9 1000000000000000000000000 (ssort (nms c)) [] (by have := nms_len h; rw [(ssort_perm (nms c)).length_eq]; omega) (Nat.le_trans (left_le _ h) (by decide)) (by decide) (by decide)
  rw [rnds_congr 9 inS_names] at hw
  simp only [List.map_nil, List.nil_append] at hw
  simp only [e_run, e_seq, seq_nx, seq_rt, seq_none, e_skip, e_set, e_own, nxK_some, vK_some, oK_some, e_ret, rtK_some, e_if, ifK_some, e_fVar, e_bVar, va_val, vb_val, vb_own, vb_bor, at_0, at_S, set_0, set_S, e_K, e_f1, o1_some, e_f2, o2_some, e_and, and_t, and_f, and_b, e_or, or_b, e_tOf, to_b, e_tAnd, tand_b, e_tOr, tor_b, e_tNot, not_b, e_tYes, e_fIf, fif_b, e_nil, e_cons, cons_some, e_tup, tup_some, e_lst, lst_some, e_call, call_some, e_m1, e_m2, e_sSeq, seqs_l, seqs_t, seqs_s, e_for, for_some, e_asg, tg_some, e_gN, e_gT2, e_gT3, e_frz, frz_own, e_retOwn, ch_b, e_lc, co_some, lc_some, wipe_nil, wipe_cons, end_rt, end_nx, pt_none, pt_some, int_some, e_cut, cut_l, cut_t, e_app, e_sRng, pad_0, sl_f, sl_t, sl_nil, add_i, sub_i, lt_i, le_i, gt_i, ge_i, neg_i, not_d, len_l, len_t, ix_l, ix_t, max2_i, min2_i, tup_l, tup_t, lst_l, lst_t, rev_l, rev_t, bool_i, bool_b, int_b, isn_n, e_chain, e_par, e_m3, List.length_cons, List.length_nil, List.replicate, List.cons_append, List.nil_append, Option.map_some, Nat.reduceAdd, Nat.reduceSub, Nat.zero_add, if_true, if_false, ite_true, ite_false, Bool.false_eq_true, reduceCtorEq, decide_true, decide_false, not_true, not_false_iff, Bool.not_true, Bool.not_false, Bool.and_true, Bool.true_and, Bool.and_false, Bool.false_and, Bool.or_true, Bool.true_or, Bool.or_false, Bool.false_or, Mi.m_law_rounds, Mi.G_law_rounds, names_ok h, e_par, gWhile, hw]
theorem over_len8 {c : Cd} {p q : Int} {S : Lot} (h : Fit c) : (overN p q S c).length ≤ 8 := by
  unfold overN
  rw [(ssort_perm _).length_eq, List.length_map]
  exact overN_len h
theorem rounds_ok {c : Cd} {p q : Int} (h : Fit c) (hp : 0 ≤ p) (hq : 0 < q) (hb : q < 10000) :
    Mi.m_rounds [c.d, lowD p q] = some (.list ((rnds p q c 9 (notS [])).map tupS)) := by
  have hw := while_over (L := notS) (nx := fun bs o => bs ++ o) (p := p) (q := q) (c := c) (M := 100) (Iv := fun bs rs => bs.length ≤ 8 * rs.length)
    (t := tOf (f2 neD (bVar 4) (fLst []))) (body := Mi.B_rounds_1 Mi.m_too_much)
    (mk := fun bs rs => [.val c.d, .val (lowD p q), .own (.list (rs.map tupS)), .val (.list (stL bs)), .val (.list (stL (overN p q (notS bs) c)))]) notS_less
    (fun ls rs _ => by simp only [e_run, e_seq, seq_nx, seq_rt, seq_none, e_skip, e_set, e_own, nxK_some, vK_some, oK_some, e_ret, rtK_some, e_if, ifK_some, e_fVar, e_bVar, va_val, vb_val, vb_own, vb_bor, at_0, at_S, set_0, set_S, e_K, e_f1, o1_some, e_f2, o2_some, e_and, and_t, and_f, and_b, e_or, or_b, e_tOf, to_b, e_tAnd, tand_b, e_tOr, tor_b, e_tNot, not_b, e_tYes, e_fIf, fif_b, e_nil, e_cons, cons_some, e_tup, tup_some, e_lst, lst_some, e_call, call_some, e_m1, e_m2, e_sSeq, seqs_l, seqs_t, seqs_s, e_for, for_some, e_asg, tg_some, e_gN, e_gT2, e_gT3, e_frz, frz_own, e_retOwn, ch_b, e_lc, co_some, lc_some, wipe_nil, wipe_cons, end_rt, end_nx, pt_none, pt_some, int_some, e_cut, cut_l, cut_t, e_app, e_sRng, pad_0, sl_f, sl_t, sl_nil, add_i, sub_i, lt_i, le_i, gt_i, ge_i, neg_i, not_d, len_l, len_t, ix_l, ix_t, max2_i, min2_i, tup_l, tup_t, lst_l, lst_t, rev_l, rev_t, bool_i, bool_b, int_b, isn_n, e_chain, e_par, e_m3, List.length_cons, List.length_nil, List.replicate, List.cons_append, List.nil_append, Option.map_some, Nat.reduceAdd, Nat.reduceSub, Nat.zero_add, if_true, if_false, ite_true, ite_false, Bool.false_eq_true, reduceCtorEq, decide_true, decide_false, not_true, not_false_iff, Bool.not_true, Bool.not_false, Bool.and_true, Bool.true_and, Bool.and_false, Bool.false_and, Bool.or_true, Bool.true_or, Bool.or_false, Bool.false_or, ne_stL]) (fun bs rs hI hr hne => by
      have h8 := over_len8 (p := p) (q := q) (S := notS bs) h
      refine ⟨?_, by rw [List.length_append, List.length_append, List.length_singleton]; omega⟩
      have hap : (rs.map tupS).length < sizeLine := by rw [List.length_map]; exact Nat.lt_trans hr (by decide)
      have hadd := add_l (x := stL bs) (y := stL (overN p q (notS bs) c)) (by rw [stL_len, stL_len]; exact Nat.le_trans (show _ ≤ 1000 by omega) (by decide))
      have e2 : stL bs ++ stL (overN p q (notS bs) c) = stL (bs ++ overN p q (notS bs) c) := by simp [stL]
      rw [e2] at hadd
      rw [List.map_append, List.map_cons, List.map_nil]
      have e : (PyData.tuple (stL (overN p q (notS bs) c))) = tupS (overN p q (notS bs) c) := rfl
      simp only [e_run, e_seq, seq_nx, seq_rt, seq_none, e_skip, e_set, e_own, nxK_some, vK_some, oK_some, e_ret, rtK_some, e_if, ifK_some, e_fVar, e_bVar, va_val, vb_val, vb_own, vb_bor, at_0, at_S, set_0, set_S, e_K, e_f1, o1_some, e_f2, o2_some, e_and, and_t, and_f, and_b, e_or, or_b, e_tOf, to_b, e_tAnd, tand_b, e_tOr, tor_b, e_tNot, not_b, e_tYes, e_fIf, fif_b, e_nil, e_cons, cons_some, e_tup, tup_some, e_lst, lst_some, e_call, call_some, e_m1, e_m2, e_sSeq, seqs_l, seqs_t, seqs_s, e_for, for_some, e_asg, tg_some, e_gN, e_gT2, e_gT3, e_frz, frz_own, e_retOwn, ch_b, e_lc, co_some, lc_some, wipe_nil, wipe_cons, end_rt, end_nx, pt_none, pt_some, int_some, e_cut, cut_l, cut_t, e_app, e_sRng, pad_0, sl_f, sl_t, sl_nil, add_i, sub_i, lt_i, le_i, gt_i, ge_i, neg_i, not_d, len_l, len_t, ix_l, ix_t, max2_i, min2_i, tup_l, tup_t, lst_l, lst_t, rev_l, rev_t, bool_i, bool_b, int_b, isn_n, e_chain, e_par, e_m3, List.length_cons, List.length_nil, List.replicate, List.cons_append, List.nil_append, Option.map_some, Nat.reduceAdd, Nat.reduceSub, Nat.zero_add, if_true, if_false, ite_true, ite_false, Bool.false_eq_true, reduceCtorEq, decide_true, decide_false, not_true, not_false_iff, Bool.not_true, Bool.not_false, Bool.and_true, Bool.true_and, Bool.and_false, Bool.false_and, Bool.or_true, Bool.true_or, Bool.or_false, Bool.false_or, Mi.B_rounds_1, app_some hap, hadd, too_much_ok h hp hq hb, e])
    9 1000000000000000000000000 [] [] (by simp) (Nat.le_trans (left_le _ h) (by decide)) (by decide) (by decide)
  have h0 := too_much_ok (bs := []) h hp hq hb
  simp only [stL, List.map_nil, List.nil_append] at hw h0
  simp only [e_run, e_seq, seq_nx, seq_rt, seq_none, e_skip, e_set, e_own, nxK_some, vK_some, oK_some, e_ret, rtK_some, e_if, ifK_some, e_fVar, e_bVar, va_val, vb_val, vb_own, vb_bor, at_0, at_S, set_0, set_S, e_K, e_f1, o1_some, e_f2, o2_some, e_and, and_t, and_f, and_b, e_or, or_b, e_tOf, to_b, e_tAnd, tand_b, e_tOr, tor_b, e_tNot, not_b, e_tYes, e_fIf, fif_b, e_nil, e_cons, cons_some, e_tup, tup_some, e_lst, lst_some, e_call, call_some, e_m1, e_m2, e_sSeq, seqs_l, seqs_t, seqs_s, e_for, for_some, e_asg, tg_some, e_gN, e_gT2, e_gT3, e_frz, frz_own, e_retOwn, ch_b, e_lc, co_some, lc_some, wipe_nil, wipe_cons, end_rt, end_nx, pt_none, pt_some, int_some, e_cut, cut_l, cut_t, e_app, e_sRng, pad_0, sl_f, sl_t, sl_nil, add_i, sub_i, lt_i, le_i, gt_i, ge_i, neg_i, not_d, len_l, len_t, ix_l, ix_t, max2_i, min2_i, tup_l, tup_t, lst_l, lst_t, rev_l, rev_t, bool_i, bool_b, int_b, isn_n, e_chain, e_par, e_m3, List.length_cons, List.length_nil, List.replicate, List.cons_append, List.nil_append, Option.map_some, Nat.reduceAdd, Nat.reduceSub, Nat.zero_add, if_true, if_false, ite_true, ite_false, Bool.false_eq_true, reduceCtorEq, decide_true, decide_false, not_true, not_false_iff, Bool.not_true, Bool.not_false, Bool.and_true, Bool.true_and, Bool.and_false, Bool.false_and, Bool.or_true, Bool.true_or, Bool.or_false, Bool.false_or, Mi.m_rounds, Mi.G_rounds, e_par, h0, gWhile, hw, e_retOwn]
/-! ### one by one -/
def brkF (p q : Int) (c : Cd) : List Str → List Str → Bool
  | _, [] => true
  | bs, x :: r => (overN p q (notS bs) c).contains x && brkF p q c (bs ++ [x]) r
theorem brkF_snoc {p q : Int} {c : Cd} {y : Str} : ∀ (row bs : List Str), brkF p q c bs (row ++ [y]) = (brkF p q c bs row && (overN p q (notS (bs ++ row)) c).contains y)
  | [], bs => by simp [brkF]
  | x :: r, bs => by
    simp only [List.cons_append, brkF, brkF_snoc r, List.append_assoc, List.singleton_append, List.nil_append, Bool.and_assoc]
def brkD (p q : Int) (c : Cd) : List Str → List D → Bool
  | bs, [] => (overN p q (notS bs) c).isEmpty
  | bs, .str x :: r => (overN p q (notS bs) c).contains x && brkD p q c (bs ++ [x]) r
  | _, _ :: _ => false
theorem brkD_stL {p q : Int} {c : Cd} : ∀ (row bs : List Str), brkD p q c bs (stL row) = (brkF p q c bs row && (overN p q (notS (bs ++ row)) c).isEmpty)
  | [], bs => by simp [brkF, brkD, stL]
  | x :: r, bs => by
    have ih := brkD_stL (p := p) (q := q) (c := c) r (bs ++ [x])
    unfold stL at ih ⊢
    simp only [List.map_cons, brkD, brkF, ih, Bool.and_assoc, List.append_assoc, List.singleton_append]
theorem is_str_d {d : D} (h : noDict d = true) : isInst .str d = some (.bool (isT .str d)) := is_str h
theorem brk_loop {c : Cd} {p q : Int} {thing : D} (h : Fit c) (hp : 0 ≤ p) (hq : 0 < q) (hb : q < 10000) : ∀ (ds : List D) (bs : List Str) (c4 : Slot), noDicts ds = true → bs.length + ds.length ≤ 100000 →
    (brkD p q c bs ds = false ∧ forL (gN 4) (Mi.B_is_breaking_1 Mi.m_too_much) ds [.val c.d, .val (lowD p q), .val thing, .own (.list (stL bs)), c4] = some (.rt (.bool false))) ∨
    ∃ bs' c4', brkD p q c bs ds = (overN p q (notS bs') c).isEmpty ∧ forL (gN 4) (Mi.B_is_breaking_1 Mi.m_too_much) ds [.val c.d, .val (lowD p q), .val thing, .own (.list (stL bs)), c4] = some (.nx [.val c.d, .val (lowD p q), .val thing, .own (.list (stL bs')), c4'])
  | [], bs, c4, _, _ => Or.inr ⟨bs, c4, rfl, rfl⟩
  | d :: ds, bs, c4, hn, hl => by
    obtain ⟨n1, n2⟩ := (by simpa [noDicts] using hn : noDict d = true ∧ noDicts ds = true)
    have tm := too_much_ok (bs := bs) h hp hq hb
    have step : ∀ o, Mi.B_is_breaking_1 Mi.m_too_much [.val c.d, .val (lowD p q), .val thing, .own (.list (stL bs)), .val d] = some o →
        forL (gN 4) (Mi.B_is_breaking_1 Mi.m_too_much) (d :: ds) [.val c.d, .val (lowD p q), .val thing, .own (.list (stL bs)), c4] = match o with
          | .nx ρ => forL (gN 4) (Mi.B_is_breaking_1 Mi.m_too_much) ds ρ
          | .rt r => some (.rt r) := fun o ho => by
      show (Option.bind (some _) fun ρ1 => (Mi.B_is_breaking_1 Mi.m_too_much ρ1).bind _) = _
      simp only [Option.bind_some, set_0, set_S, ho] <;> (cases o <;> rfl)
    cases hd : isT .str d with
    | false =>
      have e : brkD p q c bs (d :: ds) = false := by cases d <;> first | rfl | cases hd
      refine Or.inl ⟨e, ?_⟩
      rw [step (.rt (.bool false)) (by simp only [e_run, e_seq, seq_nx, seq_rt, seq_none, e_skip, e_set, e_own, nxK_some, vK_some, oK_some, e_ret, rtK_some, e_if, ifK_some, e_fVar, e_bVar, va_val, vb_val, vb_own, vb_bor, at_0, at_S, set_0, set_S, e_K, e_f1, o1_some, e_f2, o2_some, e_and, and_t, and_f, and_b, e_or, or_b, e_tOf, to_b, e_tAnd, tand_b, e_tOr, tor_b, e_tNot, not_b, e_tYes, e_fIf, fif_b, e_nil, e_cons, cons_some, e_tup, tup_some, e_lst, lst_some, e_call, call_some, e_m1, e_m2, e_sSeq, seqs_l, seqs_t, seqs_s, e_for, for_some, e_asg, tg_some, e_gN, e_gT2, e_gT3, e_frz, frz_own, e_retOwn, ch_b, e_lc, co_some, lc_some, wipe_nil, wipe_cons, end_rt, end_nx, pt_none, pt_some, int_some, e_cut, cut_l, cut_t, e_app, e_sRng, pad_0, sl_f, sl_t, sl_nil, add_i, sub_i, lt_i, le_i, gt_i, ge_i, neg_i, not_d, len_l, len_t, ix_l, ix_t, max2_i, min2_i, tup_l, tup_t, lst_l, lst_t, rev_l, rev_t, bool_i, bool_b, int_b, isn_n, e_chain, e_par, e_m3, List.length_cons, List.length_nil, List.replicate, List.cons_append, List.nil_append, Option.map_some, Nat.reduceAdd, Nat.reduceSub, Nat.zero_add, if_true, if_false, ite_true, ite_false, Bool.false_eq_true, reduceCtorEq, decide_true, decide_false, not_true, not_false_iff, Bool.not_true, Bool.not_false, Bool.and_true, Bool.true_and, Bool.and_false, Bool.false_and, Bool.or_true, Bool.true_or, Bool.or_false, Bool.false_or, Mi.B_is_breaking_1, is_str_d n1, hd])]
    | true =>
      cases d <;> first | cases hd | skip
      rename_i x
      cases hx : (overN p q (notS bs) c).contains x with
      | false =>
        refine Or.inl ⟨by simp only [brkD, hx, Bool.false_and], ?_⟩
        rw [step (.rt (.bool false)) (by simp only [e_run, e_seq, seq_nx, seq_rt, seq_none, e_skip, e_set, e_own, nxK_some, vK_some, oK_some, e_ret, rtK_some, e_if, ifK_some, e_fVar, e_bVar, va_val, vb_val, vb_own, vb_bor, at_0, at_S, set_0, set_S, e_K, e_f1, o1_some, e_f2, o2_some, e_and, and_t, and_f, and_b, e_or, or_b, e_tOf, to_b, e_tAnd, tand_b, e_tOr, tor_b, e_tNot, not_b, e_tYes, e_fIf, fif_b, e_nil, e_cons, cons_some, e_tup, tup_some, e_lst, lst_some, e_call, call_some, e_m1, e_m2, e_sSeq, seqs_l, seqs_t, seqs_s, e_for, for_some, e_asg, tg_some, e_gN, e_gT2, e_gT3, e_frz, frz_own, e_retOwn, ch_b, e_lc, co_some, lc_some, wipe_nil, wipe_cons, end_rt, end_nx, pt_none, pt_some, int_some, e_cut, cut_l, cut_t, e_app, e_sRng, pad_0, sl_f, sl_t, sl_nil, add_i, sub_i, lt_i, le_i, gt_i, ge_i, neg_i, not_d, len_l, len_t, ix_l, ix_t, max2_i, min2_i, tup_l, tup_t, lst_l, lst_t, rev_l, rev_t, bool_i, bool_b, int_b, isn_n, e_chain, e_par, e_m3, List.length_cons, List.length_nil, List.replicate, List.cons_append, List.nil_append, Option.map_some, Nat.reduceAdd, Nat.reduceSub, Nat.zero_add, if_true, if_false, ite_true, ite_false, Bool.false_eq_true, reduceCtorEq, decide_true, decide_false, not_true, not_false_iff, Bool.not_true, Bool.not_false, Bool.and_true, Bool.true_and, Bool.and_false, Bool.false_and, Bool.or_true, Bool.true_or, Bool.or_false, Bool.false_or, Mi.B_is_breaking_1, inst_s, tm, notin_l, hx])]
      | true =>
        have hap : (stL bs).length < sizeLine := by rw [stL_len]; simp only [List.length_cons] at hl; exact Nat.lt_of_le_of_lt (show _ ≤ 100000 by omega) (by decide)
        have e2 : stL bs ++ [PyData.str x] = stL (bs ++ [x]) := by simp [stL]
        have st := step (.nx [.val c.d, .val (lowD p q), .val thing, .own (.list (stL (bs ++ [x]))), .val (.str x)]) (by simp only [e_run, e_seq, seq_nx, seq_rt, seq_none, e_skip, e_set, e_own, nxK_some, vK_some, oK_some, e_ret, rtK_some, e_if, ifK_some, e_fVar, e_bVar, va_val, vb_val, vb_own, vb_bor, at_0, at_S, set_0, set_S, e_K, e_f1, o1_some, e_f2, o2_some, e_and, and_t, and_f, and_b, e_or, or_b, e_tOf, to_b, e_tAnd, tand_b, e_tOr, tor_b, e_tNot, not_b, e_tYes, e_fIf, fif_b, e_nil, e_cons, cons_some, e_tup, tup_some, e_lst, lst_some, e_call, call_some, e_m1, e_m2, e_sSeq, seqs_l, seqs_t, seqs_s, e_for, for_some, e_asg, tg_some, e_gN, e_gT2, e_gT3, e_frz, frz_own, e_retOwn, ch_b, e_lc, co_some, lc_some, wipe_nil, wipe_cons, end_rt, end_nx, pt_none, pt_some, int_some, e_cut, cut_l, cut_t, e_app, e_sRng, pad_0, sl_f, sl_t, sl_nil, add_i, sub_i, lt_i, le_i, gt_i, ge_i, neg_i, not_d, len_l, len_t, ix_l, ix_t, max2_i, min2_i, tup_l, tup_t, lst_l, lst_t, rev_l, rev_t, bool_i, bool_b, int_b, isn_n, e_chain, e_par, e_m3, List.length_cons, List.length_nil, List.replicate, List.cons_append, List.nil_append, Option.map_some, Nat.reduceAdd, Nat.reduceSub, Nat.zero_add, if_true, if_false, ite_true, ite_false, Bool.false_eq_true, reduceCtorEq, decide_true, decide_false, not_true, not_false_iff, Bool.not_true, Bool.not_false, Bool.and_true, Bool.true_and, Bool.and_false, Bool.false_and, Bool.or_true, Bool.true_or, Bool.or_false, Bool.false_or, Mi.B_is_breaking_1, inst_s, tm, notin_l, hx, app_some hap, e2])
        have ih := brk_loop (thing := thing) h hp hq hb ds (bs ++ [x]) (.val (.str x)) n2 (by simp only [List.length_cons, List.length_append, List.length_nil] at hl ⊢; omega)
        have e3 : brkD p q c bs (.str x :: ds) = brkD p q c (bs ++ [x]) ds := by simp only [brkD, hx, Bool.true_and]
        rw [e3, st]
        exact ih
theorem is_breaking_ok {c : Cd} {p q : Int} {ds : List D} (h : Fit c) (hp : 0 ≤ p) (hq : 0 < q) (hb : q < 10000) (hn : noDicts ds = true) (hl : ds.length ≤ 100000) :
    Mi.m_is_breaking [c.d, lowD p q, .list ds] = some (.bool (brkD p q c [] ds)) := by
  have hi : isInst .list (.list ds) = some (.bool true) := rfl
  rcases brk_loop (thing := .list ds) h hp hq hb ds [] .no hn (by simp; omega) with ⟨e1, e2⟩ | ⟨bs', c4', e1, e2⟩
  · simp only [stL, List.map_nil] at e2
    rw [e1]
    simp only [e_run, e_seq, seq_nx, seq_rt, seq_none, e_skip, e_set, e_own, nxK_some, vK_some, oK_some, e_ret, rtK_some, e_if, ifK_some, e_fVar, e_bVar, va_val, vb_val, vb_own, vb_bor, at_0, at_S, set_0, set_S, e_K, e_f1, o1_some, e_f2, o2_some, e_and, and_t, and_f, and_b, e_or, or_b, e_tOf, to_b, e_tAnd, tand_b, e_tOr, tor_b, e_tNot, not_b, e_tYes, e_fIf, fif_b, e_nil, e_cons, cons_some, e_tup, tup_some, e_lst, lst_some, e_call, call_some, e_m1, e_m2, e_sSeq, seqs_l, seqs_t, seqs_s, e_for, for_some, e_asg, tg_some, e_gN, e_gT2, e_gT3, e_frz, frz_own, e_retOwn, ch_b, e_lc, co_some, lc_some, wipe_nil, wipe_cons, end_rt, end_nx, pt_none, pt_some, int_some, e_cut, cut_l, cut_t, e_app, e_sRng, pad_0, sl_f, sl_t, sl_nil, add_i, sub_i, lt_i, le_i, gt_i, ge_i, neg_i, not_d, len_l, len_t, ix_l, ix_t, max2_i, min2_i, tup_l, tup_t, lst_l, lst_t, rev_l, rev_t, bool_i, bool_b, int_b, isn_n, e_chain, e_par, e_m3, List.length_cons, List.length_nil, List.replicate, List.cons_append, List.nil_append, Option.map_some, Nat.reduceAdd, Nat.reduceSub, Nat.zero_add, if_true, if_false, ite_true, ite_false, Bool.false_eq_true, reduceCtorEq, decide_true, decide_false, not_true, not_false_iff, Bool.not_true, Bool.not_false, Bool.and_true, Bool.true_and, Bool.and_false, Bool.false_and, Bool.or_true, Bool.true_or, Bool.or_false, Bool.false_or, Mi.m_is_breaking, Mi.G_is_breaking, hi, e2]
  · simp only [stL, List.map_nil] at e2
    rw [e1]
    have tm := too_much_ok (bs := bs') h hp hq hb
    have e3 : List.map PyData.str bs' = stL bs' := rfl
    simp only [e_run, e_seq, seq_nx, seq_rt, seq_none, e_skip, e_set, e_own, nxK_some, vK_some, oK_some, e_ret, rtK_some, e_if, ifK_some, e_fVar, e_bVar, va_val, vb_val, vb_own, vb_bor, at_0, at_S, set_0, set_S, e_K, e_f1, o1_some, e_f2, o2_some, e_and, and_t, and_f, and_b, e_or, or_b, e_tOf, to_b, e_tAnd, tand_b, e_tOr, tor_b, e_tNot, not_b, e_tYes, e_fIf, fif_b, e_nil, e_cons, cons_some, e_tup, tup_some, e_lst, lst_some, e_call, call_some, e_m1, e_m2, e_sSeq, seqs_l, seqs_t, seqs_s, e_for, for_some, e_asg, tg_some, e_gN, e_gT2, e_gT3, e_frz, frz_own, e_retOwn, ch_b, e_lc, co_some, lc_some, wipe_nil, wipe_cons, end_rt, end_nx, pt_none, pt_some, int_some, e_cut, cut_l, cut_t, e_app, e_sRng, pad_0, sl_f, sl_t, sl_nil, add_i, sub_i, lt_i, le_i, gt_i, ge_i, neg_i, not_d, len_l, len_t, ix_l, ix_t, max2_i, min2_i, tup_l, tup_t, lst_l, lst_t, rev_l, rev_t, bool_i, bool_b, int_b, isn_n, e_chain, e_par, e_m3, List.length_cons, List.length_nil, List.replicate, List.cons_append, List.nil_append, Option.map_some, Nat.reduceAdd, Nat.reduceSub, Nat.zero_add, if_true, if_false, ite_true, ite_false, Bool.false_eq_true, reduceCtorEq, decide_true, decide_false, not_true, not_false_iff, Bool.not_true, Bool.not_false, Bool.and_true, Bool.true_and, Bool.and_false, Bool.false_and, Bool.or_true, Bool.true_or, Bool.or_false, Bool.false_or, Mi.m_is_breaking, Mi.G_is_breaking, hi, e2, e3, tm, eq_stL]
end Fact
set_option maxRecDepth 100000
/-! Drawn orders of breaking; loads by digits. -/
namespace Fact
open PySem Pu
theorem strsL_stL : ∀ xs : List Str, strsL (stL xs) = some xs
  | [] => rfl
  | x :: r => by
    have := strsL_stL r
    unfold stL at this ⊢
    simp only [List.map_cons, strsL, this, Option.map_some]
theorem remL_stL {x : Str} : ∀ {xs : List Str}, x ∈ xs → remL (.str x) (stL xs) = some (stL (xs.erase x))
  | a :: r, h => by
    unfold stL
    simp only [List.map_cons, remL, eqv_ss, List.erase_cons]
    by_cases e : a = x
    · have : (a == x) = true := by simpa using e
      rw [if_pos this, if_pos this]
    · have e' : ¬ (a == x) = true := by simpa using e
      have h' : x ∈ r := by
        rcases List.mem_cons.mp h with h | h
        · exact absurd h.symm e
        · exact h
      have ih := remL_stL h'
      unfold stL at ih
      rw [if_neg e', if_neg e', ih]
      rfl
theorem rem_ok {i : Nat} {f : F1} {ρ : Rho} {ls : List Str} {x : Str} (hi : atR ρ i = .own (.list (stL ls))) (hf : f ρ = some (.str x)) (hx : x ∈ ls) : gRem i f ρ = some (.nx (ρ.set i (.own (.list (stL (ls.erase x)))))) := by
  unfold gRem
  rw [hf, Option.bind_some, hi]
  show (if (strsL (stL ls)).isSome = true then _ else _) = _
  rw [strsL_stL, remL_stL hx]
  rfl
/-- the names that are left -/
def rest (c : Cd) (row : List Str) : List Str := (ssort (nms c)).filter (notS row)
theorem rest_nd {c : Cd} (h : Fit c) (row : List Str) : (rest c row).Nodup := ((ssort_perm (nms c)).nodup_iff.mpr h.nd).filter _
theorem rest_mem {c : Cd} {row : List Str} {x : Str} : x ∈ rest c row ↔ x ∈ nms c ∧ notS row x = true := by unfold rest; rw [List.mem_filter, ssort_mem]
theorem rest_in {c : Cd} {row : List Str} : ∀ x ∈ nms c, inS (rest c row) x = notS row x := fun x hx => by
  unfold inS
  rw [Bool.eq_iff_iff, List.contains_iff_mem, rest_mem]
  exact ⟨fun h => h.2, fun h => ⟨hx, h⟩⟩
theorem rest_erase {c : Cd} (h : Fit c) (row : List Str) (x : Str) : (rest c row).erase x = rest c (row ++ [x]) := by
  rw [(rest_nd h row).erase_eq_filter]
  unfold rest
  rw [List.filter_filter]
  refine List.filter_congr fun y _ => ?_
  unfold notS
  rw [Bool.eq_iff_iff]
  simp [List.mem_append, and_comm]
theorem rest_nil (c : Cd) : rest c [] = ssort (nms c) := List.filter_eq_self.mpr fun x _ => by simp [notS]
theorem over_rest {c : Cd} {p q : Int} (h : Fit c) (hp : 0 ≤ p) (hq : 0 < q) (hb : q < 10000) (row : List Str) : Mi.m_law_over [c.d, lowD p q, .list (stL (rest c row))] = some (.list (stL (overN p q (notS row) c))) := by
  rw [law_over_ok h hp hq hb, overN_congr rest_in]
theorem broken_loop {c : Cd} {p q : Int} {x2 : Slot} (h : Fit c) (hp : 0 ≤ p) (hq : 0 < q) (hb : q < 10000) (dr : List Int) (h9 : 9 ≤ dr.length) :
    ∃ row a b, forL (gN 5) (Mi.B_law_broken_1 Mi.m_law_over) ((dr.take 9).map .int) [.val c.d, .val (lowD p q), x2, .own (.list (stL (ssort (nms c)))), .own (.list []), .no, .no] =
      some (.nx [.val c.d, .val (lowD p q), x2, .own (.list (stL (rest c row))), .own (.list (stL row)), a, b]) ∧ brkF p q c [] row = true ∧ row.length ≤ 9 ∧ overN p q (notS row) c = [] ∧ ∀ x ∈ nms c, notS row x = holdS p q c x := by
  have st := (cnt_hold c p q h.ok hq hp h.nd).2
  obtain ⟨ρ', h1, row, a, b, k1, k2, k3, k4, rfl⟩ := forL_map (enc := PyData.int) (tg := gN 5) (body := Mi.B_law_broken_1 Mi.m_law_over) (full := dr.take 9) (xs := dr.take 9) (pre := [])
    (ρ := [.val c.d, .val (lowD p q), x2, .own (.list (stL (rest c []))), .own (.list []), .no, .no])
    (I := fun pre ρ => ∃ row a b, brkF p q c [] row = true ∧ row.length ≤ pre.length ∧ (overN p q (notS row) c = [] ∨ left (notS row) c + pre.length ≤ 8) ∧ (∀ x ∈ nms c, holdS p q c x = true → notS row x = true) ∧
      ρ = [.val c.d, .val (lowD p q), x2, .own (.list (stL (rest c row))), .own (.list (stL row)), a, b]) rfl
    ⟨[], .no, .no, rfl, Nat.le_refl _, Or.inr (by have := left_le (notS []) h; simpa using this), fun _ _ _ => rfl, rfl⟩ fun pre d post ρ e ⟨row, a, b, k1, k2, k3, k4, hρ⟩ => by
      subst hρ
      have hov := over_rest h hp hq hb row
      have hpl : pre.length ≤ 9 := by
        have := congrArg List.length e
        rw [List.length_append, List.length_cons, List.length_take] at this
        omega
      by_cases h0 : overN p q (notS row) c = []
      · refine ⟨_, _, rfl, ?_, row, .val (.int d), .val (.list (stL (overN p q (notS row) c))), k1, by rw [List.length_append]; omega, Or.inl h0, k4, rfl⟩
        have hne := ne_stL (overN p q (notS row) c)
        have he : (overN p q (notS row) c).isEmpty = true := by rw [h0]; rfl
        rw [he] at hne
        simp only [e_run, e_seq, seq_nx, seq_rt, seq_none, e_skip, e_set, e_own, nxK_some, vK_some, oK_some, e_ret, rtK_some, e_if, ifK_some, e_fVar, e_bVar, va_val, vb_val, vb_own, vb_bor, at_0, at_S, set_0, set_S, e_K, e_f1, o1_some, e_f2, o2_some, e_and, and_t, and_f, and_b, e_or, or_b, e_tOf, to_b, e_tAnd, tand_b, e_tOr, tor_b, e_tNot, not_b, e_tYes, e_fIf, fif_b, e_nil, e_cons, cons_some, e_tup, tup_some, e_lst, lst_some, e_call, call_some, e_m1, e_m2, e_sSeq, seqs_l, seqs_t, seqs_s, e_for, for_some, e_asg, tg_some, e_gN, e_gT2, e_gT3, e_frz, frz_own, e_retOwn, ch_b, e_lc, co_some, lc_some, wipe_nil, wipe_cons, end_rt, end_nx, pt_none, pt_some, int_some, e_cut, cut_l, cut_t, e_app, e_sRng, pad_0, sl_f, sl_t, sl_nil, add_i, sub_i, lt_i, le_i, gt_i, ge_i, neg_i, not_d, len_l, len_t, ix_l, ix_t, max2_i, min2_i, tup_l, tup_t, lst_l, lst_t, rev_l, rev_t, bool_i, bool_b, int_b, isn_n, e_chain, e_par, e_m3, List.length_cons, List.length_nil, List.replicate, List.cons_append, List.nil_append, Option.map_some, Nat.reduceAdd, Nat.reduceSub, Nat.zero_add, if_true, if_false, ite_true, ite_false, Bool.false_eq_true, reduceCtorEq, decide_true, decide_false, not_true, not_false_iff, Bool.not_true, Bool.not_false, Bool.and_true, Bool.true_and, Bool.and_false, Bool.false_and, Bool.or_true, Bool.true_or, Bool.or_false, Bool.false_or, Mi.B_law_broken_1, hov, hne]
      · have hlen : (0 : Int) < (overN p q (notS row) c).length := by have := List.length_pos_iff.mpr h0; omega
        have hm : modD (.int d) (.int (overN p q (notS row) c).length) = some (.int (d % (overN p q (notS row) c).length)) := mod_ok hlen
        obtain ⟨y, hy1, hy2⟩ := atI_mem (xs := stL (overN p q (notS row) c)) (i := d % (overN p q (notS row) c).length) (Int.emod_nonneg _ (by omega)) (by rw [stL_len]; exact Int.emod_lt_of_pos _ hlen)
        obtain ⟨x, hx, rfl⟩ := List.mem_map.mp hy1
        obtain ⟨n1, n2⟩ := overN_mem hx
        have hmem : x ∈ rest c row := rest_mem.mpr ⟨n1, n2⟩
        have hap : (stL row).length < sizeLine := by rw [stL_len]; exact Nat.lt_of_le_of_lt (show _ ≤ 9 by omega) (by decide)
        have e2 : stL row ++ [PyData.str x] = stL (row ++ [x]) := by simp [stL]
        have hat : L2.atI (stL (row ++ [x])) (-1) = some (.str x) := at_last (by simp [stL])
        have hne := ne_stL (overN p q (notS row) c)
        have he : (overN p q (notS row) c).isEmpty = false := by simpa using h0
        rw [he] at hne
        have hlt : left (notS (row ++ [x])) c < left (notS row) c := by rw [notS_less]; exact left_less n1 n2 (List.mem_singleton.mpr rfl)
        refine ⟨_, _, rfl, ?_, row ++ [x], .val (.int d), .val (.list (stL (overN p q (notS row) c))), ?_, by rw [List.length_append, List.length_append, List.length_singleton, List.length_singleton]; omega, ?_, ?_, rfl⟩
        · have hrem := rem_ok (i := 3) (f := f2 ixD (bVar 4) (f1 negD (fK (.int 1)))) (ρ := [.val c.d, .val (lowD p q), x2, .own (.list (stL (rest c row))), .own (.list (stL (row ++ [x]))), .val (.int d), .val (.list (stL (overN p q (notS row) c)))]) (ls := rest c row) (x := x) rfl (by simp only [e_run, e_seq, seq_nx, seq_rt, seq_none, e_skip, e_set, e_own, nxK_some, vK_some, oK_some, e_ret, rtK_some, e_if, ifK_some, e_fVar, e_bVar, va_val, vb_val, vb_own, vb_bor, at_0, at_S, set_0, set_S, e_K, e_f1, o1_some, e_f2, o2_some, e_and, and_t, and_f, and_b, e_or, or_b, e_tOf, to_b, e_tAnd, tand_b, e_tOr, tor_b, e_tNot, not_b, e_tYes, e_fIf, fif_b, e_nil, e_cons, cons_some, e_tup, tup_some, e_lst, lst_some, e_call, call_some, e_m1, e_m2, e_sSeq, seqs_l, seqs_t, seqs_s, e_for, for_some, e_asg, tg_some, e_gN, e_gT2, e_gT3, e_frz, frz_own, e_retOwn, ch_b, e_lc, co_some, lc_some, wipe_nil, wipe_cons, end_rt, end_nx, pt_none, pt_some, int_some, e_cut, cut_l, cut_t, e_app, e_sRng, pad_0, sl_f, sl_t, sl_nil, add_i, sub_i, lt_i, le_i, gt_i, ge_i, neg_i, not_d, len_l, len_t, ix_l, ix_t, max2_i, min2_i, tup_l, tup_t, lst_l, lst_t, rev_l, rev_t, bool_i, bool_b, int_b, isn_n, e_chain, e_par, e_m3, List.length_cons, List.length_nil, List.replicate, List.cons_append, List.nil_append, Option.map_some, Nat.reduceAdd, Nat.reduceSub, Nat.zero_add, if_true, if_false, ite_true, ite_false, Bool.false_eq_true, reduceCtorEq, decide_true, decide_false, not_true, not_false_iff, Bool.not_true, Bool.not_false, Bool.and_true, Bool.true_and, Bool.and_false, Bool.false_and, Bool.or_true, Bool.true_or, Bool.or_false, Bool.false_or, hat, ix_0]) hmem
          rw [rest_erase h] at hrem
          simp only [e_run, e_seq, seq_nx, seq_rt, seq_none, e_skip, e_set, e_own, nxK_some, vK_some, oK_some, e_ret, rtK_some, e_if, ifK_some, e_fVar, e_bVar, va_val, vb_val, vb_own, vb_bor, at_0, at_S, set_0, set_S, e_K, e_f1, o1_some, e_f2, o2_some, e_and, and_t, and_f, and_b, e_or, or_b, e_tOf, to_b, e_tAnd, tand_b, e_tOr, tor_b, e_tNot, not_b, e_tYes, e_fIf, fif_b, e_nil, e_cons, cons_some, e_tup, tup_some, e_lst, lst_some, e_call, call_some, e_m1, e_m2, e_sSeq, seqs_l, seqs_t, seqs_s, e_for, for_some, e_asg, tg_some, e_gN, e_gT2, e_gT3, e_frz, frz_own, e_retOwn, ch_b, e_lc, co_some, lc_some, wipe_nil, wipe_cons, end_rt, end_nx, pt_none, pt_some, int_some, e_cut, cut_l, cut_t, e_app, e_sRng, pad_0, sl_f, sl_t, sl_nil, add_i, sub_i, lt_i, le_i, gt_i, ge_i, neg_i, not_d, len_l, len_t, ix_l, ix_t, max2_i, min2_i, tup_l, tup_t, lst_l, lst_t, rev_l, rev_t, bool_i, bool_b, int_b, isn_n, e_chain, e_par, e_m3, List.length_cons, List.length_nil, List.replicate, List.cons_append, List.nil_append, Option.map_some, Nat.reduceAdd, Nat.reduceSub, Nat.zero_add, if_true, if_false, ite_true, ite_false, Bool.false_eq_true, reduceCtorEq, decide_true, decide_false, not_true, not_false_iff, Bool.not_true, Bool.not_false, Bool.and_true, Bool.true_and, Bool.and_false, Bool.false_and, Bool.or_true, Bool.true_or, Bool.or_false, Bool.false_or, Mi.B_law_broken_1, hov, hne, stL_len, hm, hy2, app_some hap, e2, ix_0, hrem]
        · rw [brkF_snoc, k1, List.nil_append, Bool.true_and]
          simpa using hx
        · rcases k3 with k3 | k3
          · exact absurd k3 h0
          · exact Or.inr (by rw [List.length_append, List.length_singleton]; omega)
        · intro z hz hh
          rw [notS_less]
          simp only [less, Bool.and_eq_true, Bool.not_eq_true']
          refine ⟨k4 z hz hh, ?_⟩
          cases ez : [x].contains z with
          | false => rfl
          | true =>
            have : z = x := by simpa using ez
            subst this
            obtain ⟨t, ht, rfl⟩ := List.mem_map.mp (ssort_mem.mp hx)
            have := stab_out hq hp h.nd st k4 ht
            rw [hh] at this; cases this
  have hstab : overN p q (notS row) c = [] := by
    rcases k3 with k3 | k3
    · exact k3
    · rw [List.length_take] at k3
      omega
  rw [rest_nil] at h1
  refine ⟨row, a, b, h1, k1, by rw [List.length_take] at k2; omega, hstab, left_is h.ok hq hp k4 (over_nil.mpr (overN_nil.mp hstab))⟩
theorem rest_hold {c : Cd} {p q : Int} {row : List Str} (h : ∀ x ∈ nms c, notS row x = holdS p q c x) : rest c row = (ssort (nms c)).filter (holdS p q c) := List.filter_congr fun x hx => h x (ssort_mem.mp hx)
theorem law_broken_ok {c : Cd} {p q : Int} (h : Fit c) (hp : 0 ≤ p) (hq : 0 < q) (hb : q < 10000) (dr : List Int) (h9 : 9 ≤ dr.length) :
    ∃ row, Mi.m_law_broken [c.d, lowD p q, nums dr] = some (.tuple [.list (stL row), .tuple (stL ((ssort (nms c)).filter (holdS p q c)))]) ∧ brkD p q c [] (stL row) = true ∧ row.length ≤ 9 := by
  obtain ⟨row, a, b, h1, k1, k2, k3, k4⟩ := broken_loop (x2 := .val (nums dr)) h hp hq hb dr h9
  refine ⟨row, ?_, by rw [brkD_stL, k1, List.nil_append, k3]; rfl, k2⟩
  have hc : cutL (dr.map PyData.int) none (some 9) = (dr.take 9).map .int := by rw [show (9 : Int) = ((9 : Nat) : Int) from rfl, cut_to, List.map_take]
  have hr := rest_hold k4
  simp only [nums] at h1
  simp only [e_run, e_seq, seq_nx, seq_rt, seq_none, e_skip, e_set, e_own, nxK_some, vK_some, oK_some, e_ret, rtK_some, e_if, ifK_some, e_fVar, e_bVar, va_val, vb_val, vb_own, vb_bor, at_0, at_S, set_0, set_S, e_K, e_f1, o1_some, e_f2, o2_some, e_and, and_t, and_f, and_b, e_or, or_b, e_tOf, to_b, e_tAnd, tand_b, e_tOr, tor_b, e_tNot, not_b, e_tYes, e_fIf, fif_b, e_nil, e_cons, cons_some, e_tup, tup_some, e_lst, lst_some, e_call, call_some, e_m1, e_m2, e_sSeq, seqs_l, seqs_t, seqs_s, e_for, for_some, e_asg, tg_some, e_gN, e_gT2, e_gT3, e_frz, frz_own, e_retOwn, ch_b, e_lc, co_some, lc_some, wipe_nil, wipe_cons, end_rt, end_nx, pt_none, pt_some, int_some, e_cut, cut_l, cut_t, e_app, e_sRng, pad_0, sl_f, sl_t, sl_nil, add_i, sub_i, lt_i, le_i, gt_i, ge_i, neg_i, not_d, len_l, len_t, ix_l, ix_t, max2_i, min2_i, tup_l, tup_t, lst_l, lst_t, rev_l, rev_t, bool_i, bool_b, int_b, isn_n, e_chain, e_par, e_m3, List.length_cons, List.length_nil, List.replicate, List.cons_append, List.nil_append, Option.map_some, Nat.reduceAdd, Nat.reduceSub, Nat.zero_add, if_true, if_false, ite_true, ite_false, Bool.false_eq_true, reduceCtorEq, decide_true, decide_false, not_true, not_false_iff, Bool.not_true, Bool.not_false, Bool.and_true, Bool.true_and, Bool.and_false, Bool.false_and, Bool.or_true, Bool.true_or, Bool.or_false, Bool.false_or, Mi.m_law_broken, Mi.G_law_broken, names_ok h, e_par, nums, hc, h1, hr]
/-! ### those that hold -/
theorem hold_perm {c : Cd} {p q : Int} (h : Fit c) : ((nms c).filter (holdS p q c)).Perm ((shs p q c).map (·.1)) := by
  refine perm_of_mem (h.nd.filter _) ((shs_sub c p q).nodup h.nd) fun x => ?_
  rw [List.mem_filter]
  constructor
  · rintro ⟨_, hx⟩
    obtain ⟨q', hq'⟩ := holdS_iff.mp hx
    exact List.mem_map.mpr ⟨_, hq', rfl⟩
  · intro hx
    obtain ⟨r, hr, rfl⟩ := List.mem_map.mp hx
    exact ⟨shs_names c p q r hr, holdS_iff.mpr ⟨r.2, hr⟩⟩
/-- their names, rising -/
def holdN (p q : Int) (c : Cd) : List Str := ssort ((shs p q c).map (·.1))
theorem holdN_eq {c : Cd} {p q : Int} (h : Fit c) : (ssort (nms c)).filter (holdS p q c) = holdN p q c := by
  rw [ssort_filter]
  exact ssort_congr (hold_perm h)
theorem law_held_all {c : Cd} {p q : Int} (h : Fit c) (hp : 0 ≤ p) (hq : 0 < q) (hb : q < 10000) {ls : List Str} (hls : ls.Perm (nms c)) :
    Mi.m_law_held [c.d, lowD p q, .list (stL ls)] = some (.tuple (stL (holdN p q c))) := by
  rw [law_held_ok h hp hq hb (by rw [hls.length_eq]; have := nms_len h; omega), ssort_congr hls, ← holdN_eq h]
  congr 3
  refine List.filter_congr fun x hx => ?_
  have hx := ssort_mem.mp hx
  exact fin_all h.ok hq hp h.nd (fun y hy _ => by unfold inS; simpa using hls.mem_iff.mpr hy) (Nat.le_trans (left_le _ h) (by decide)) x hx
/-! ### loads by digits -/
theorem mod_in {a b : Int} (hb : 0 < b) : 0 ≤ a % b ∧ a % b < b := ⟨Int.emod_nonneg _ (by omega), Int.emod_lt_of_pos _ hb⟩
theorem load_ok (dr : List Int) (most : Int) (hl : 4 ≤ dr.length) (hm : 0 ≤ most) (hm2 : most < 1000000000) :
    ∃ p q, Mi.m_law_load [nums dr, .int most] = some (lowD p q) ∧ 0 ≤ p ∧ 0 < q ∧ q ≤ 7 ∧ p ≤ (most + 3) * q := by
  have draw : ∀ i : Nat, i < 4 → ∃ n, L2.atI (dr.map PyData.int) (i : Int) = some (.int n) := fun i hi => by
    obtain ⟨n, _, _, h2⟩ := nums_at (ns := dr) (i := i) (by omega) (by omega)
    exact ⟨n, h2⟩
  obtain ⟨d0, q0⟩ := draw 0 (by omega)
  obtain ⟨d1, q1⟩ := draw 1 (by omega)
  obtain ⟨d2, q2⟩ := draw 2 (by omega)
  obtain ⟨d3, q3⟩ := draw 3 (by omega)
  replace q0 : L2.atI (dr.map PyData.int) 0 = some (.int d0) := q0
  replace q1 : L2.atI (dr.map PyData.int) 1 = some (.int d1) := q1
  replace q2 : L2.atI (dr.map PyData.int) 2 = some (.int d2) := q2
  replace q3 : L2.atI (dr.map PyData.int) 3 = some (.int d3) := q3
  have r0 : modD (.int d0) (.int (most + 3)) = some (.int (d0 % (most + 3))) := mod_ok (by omega)
  have r1 : modD (.int d1) (.int 7) = some (.int (d1 % 7)) := mod_ok (by decide)
  have r2 : modD (.int d2) (.int 4) = some (.int (d2 % 4)) := mod_ok (by decide)
  have r3 : modD (.int d3) (.int 3) = some (.int (d3 % 3)) := mod_ok (by decide)
  obtain ⟨b, w, z2⟩ := pick4 1 2 3 (1 + d1 % 7) d2
  obtain ⟨e, w3, z3⟩ := pick3 0 1 (0 - 1) d3
  have b7 := mod_in (a := d1) (b := 7) (by decide)
  have t0 := mod_in (a := d0) (b := most + 3) (by omega)
  have hb : 0 < b ∧ b ≤ 7 := by omega
  generalize d0 % (most + 3) = top at r0 t0
  have m1 : mulD (.int top) (.int b) = some (.int (top * b)) := mul_ok (Or.inr (by omega))
  by_cases ht : 0 < top
  · have hge : b ≤ top * b := by
      have := Int.mul_le_mul_of_nonneg_right (show 1 ≤ top by omega) (show 0 ≤ b by omega)
      omega
    have hup : top * b ≤ (most + 2) * b := Int.mul_le_mul_of_nonneg_right (by omega) (by omega)
    have hup2 : (most + 3) * b = (most + 2) * b + b := by rw [show most + 3 = most + 2 + 1 by omega, Int.add_mul, Int.one_mul]
    refine ⟨top * b + e * 1, b, ?_, by omega, hb.1, hb.2, by omega⟩
    have m2 : mulD (.int e) (.int 1) = some (.int (e * 1)) := mul_ok (Or.inr (by omega))
    have lw := lowest_ok (p := top * b + e * 1) (q := b) (by omega) hb.1 (by omega)
    have i1 : intD (.bool true) = some (.int 1) := rfl
    simp only [e_run, e_seq, seq_nx, seq_rt, seq_none, e_skip, e_set, e_own, nxK_some, vK_some, oK_some, e_ret, rtK_some, e_if, ifK_some, e_fVar, e_bVar, va_val, vb_val, vb_own, vb_bor, at_0, at_S, set_0, set_S, e_K, e_f1, o1_some, e_f2, o2_some, e_and, and_t, and_f, and_b, e_or, or_b, e_tOf, to_b, e_tAnd, tand_b, e_tOr, tor_b, e_tNot, not_b, e_tYes, e_fIf, fif_b, e_nil, e_cons, cons_some, e_tup, tup_some, e_lst, lst_some, e_call, call_some, e_m1, e_m2, e_sSeq, seqs_l, seqs_t, seqs_s, e_for, for_some, e_asg, tg_some, e_gN, e_gT2, e_gT3, e_frz, frz_own, e_retOwn, ch_b, e_lc, co_some, lc_some, wipe_nil, wipe_cons, end_rt, end_nx, pt_none, pt_some, int_some, e_cut, cut_l, cut_t, e_app, e_sRng, pad_0, sl_f, sl_t, sl_nil, add_i, sub_i, lt_i, le_i, gt_i, ge_i, neg_i, not_d, len_l, len_t, ix_l, ix_t, max2_i, min2_i, tup_l, tup_t, lst_l, lst_t, rev_l, rev_t, bool_i, bool_b, int_b, isn_n, e_chain, e_par, e_m3, List.length_cons, List.length_nil, List.replicate, List.cons_append, List.nil_append, Option.map_some, Nat.reduceAdd, Nat.reduceSub, Nat.zero_add, if_true, if_false, ite_true, ite_false, Bool.false_eq_true, reduceCtorEq, decide_true, decide_false, not_true, not_false_iff, Bool.not_true, Bool.not_false, Bool.and_true, Bool.true_and, Bool.and_false, Bool.false_and, Bool.or_true, Bool.true_or, Bool.or_false, Bool.false_or, Mi.m_law_load, Mi.G_law_load, e_par, nums, q0, q1, q2, q3, r0, r1, r2, r3, z2, z3, m1, ht, i1, m2, lw]
  · have e0 : top = 0 := by omega
    subst e0
    have hup : 0 ≤ (most + 3) * b := Int.mul_nonneg (by omega) (by omega)
    refine ⟨0 * b + e * 0, b, ?_, by simp, hb.1, hb.2, by simpa using hup⟩
    have m2 : mulD (.int e) (.int 0) = some (.int (e * 0)) := mul_ok (Or.inr (by omega))
    have lw := lowest_ok (p := 0 * b + e * 0) (q := b) (by simp) hb.1 (by omega)
    have i1 : intD (.bool false) = some (.int 0) := rfl
    simp only [e_run, e_seq, seq_nx, seq_rt, seq_none, e_skip, e_set, e_own, nxK_some, vK_some, oK_some, e_ret, rtK_some, e_if, ifK_some, e_fVar, e_bVar, va_val, vb_val, vb_own, vb_bor, at_0, at_S, set_0, set_S, e_K, e_f1, o1_some, e_f2, o2_some, e_and, and_t, and_f, and_b, e_or, or_b, e_tOf, to_b, e_tAnd, tand_b, e_tOr, tor_b, e_tNot, not_b, e_tYes, e_fIf, fif_b, e_nil, e_cons, cons_some, e_tup, tup_some, e_lst, lst_some, e_call, call_some, e_m1, e_m2, e_sSeq, seqs_l, seqs_t, seqs_s, e_for, for_some, e_asg, tg_some, e_gN, e_gT2, e_gT3, e_frz, frz_own, e_retOwn, ch_b, e_lc, co_some, lc_some, wipe_nil, wipe_cons, end_rt, end_nx, pt_none, pt_some, int_some, e_cut, cut_l, cut_t, e_app, e_sRng, pad_0, sl_f, sl_t, sl_nil, add_i, sub_i, lt_i, le_i, gt_i, ge_i, neg_i, not_d, len_l, len_t, ix_l, ix_t, max2_i, min2_i, tup_l, tup_t, lst_l, lst_t, rev_l, rev_t, bool_i, bool_b, int_b, isn_n, e_chain, e_par, e_m3, List.length_cons, List.length_nil, List.replicate, List.cons_append, List.nil_append, Option.map_some, Nat.reduceAdd, Nat.reduceSub, Nat.zero_add, if_true, if_false, ite_true, ite_false, Bool.false_eq_true, reduceCtorEq, decide_true, decide_false, not_true, not_false_iff, Bool.not_true, Bool.not_false, Bool.and_true, Bool.true_and, Bool.and_false, Bool.false_and, Bool.or_true, Bool.true_or, Bool.or_false, Bool.false_or, Mi.m_law_load, Mi.G_law_load, e_par, nums, q0, q1, q2, q3, r0, r1, r2, r3, z2, z3, m1, ht, i1, m2, lw]
/-- the sum of all strengths -/
theorem sum_ok {c : Cd} (h : Good 8 c.ss) : 0 ≤ (c.ss.map (·.2)).sum ∧ (c.ss.map (·.2)).sum ≤ 792 := by
  have h1 := h.str
  have h2 := h.len
  have : ∀ l : List (Str × Int), (∀ s ∈ l, 1 ≤ s.2 ∧ s.2 ≤ 99) → 0 ≤ (l.map (·.2)).sum ∧ (l.map (·.2)).sum ≤ 99 * l.length := fun l hl => by
    induction l with
    | nil => simp
    | cons a l ih =>
      obtain ⟨i1, i2⟩ := ih fun s hs => hl s (List.mem_cons_of_mem _ hs)
      have := hl a List.mem_cons_self
      simp only [List.map_cons, List.sum_cons, List.length_cons]
      omega
  obtain ⟨a1, a2⟩ := this c.ss h1
  omega
end Fact
set_option maxRecDepth 100000
/-! Comparing; what each that holds bears. -/
namespace Fact
open PySem Pu
mutual
theorem eqv_rfl : ∀ d : D, noDict d = true → PyData.eqv d d = true
  | .none, _ => rfl
  | .bool a, _ => by simp [PyData.eqv]
  | .int a, _ => by simp [PyData.eqv]
  | .str a, _ => by simp [PyData.eqv]
  | .list xs, h => by
    have := eqvs_rfl xs (by simpa [noDict] using h)
    simp [PyData.eqv, this]
  | .tuple xs, h => by
    have := eqvs_rfl xs (by simpa [noDict] using h)
    simp [PyData.eqv, this]
  | .dict _, h => by cases h
theorem eqvs_rfl : ∀ xs : List D, noDicts xs = true → PyData.eqvAll xs xs = true
  | [], _ => by simp [PyData.eqvAll]
  | x :: xs, h => by
    obtain ⟨h1, h2⟩ := (by simpa [noDicts] using h : noDict x = true ∧ noDicts xs = true)
    rw [PySem.W.eqv_all_cons, eqv_rfl x h1, eqvs_rfl xs h2]
    rfl
end
theorem eqB_self {d : D} (h : noDict d = true) (hd : d.depth ≤ 64) : eqB d d = some true := by
  have e : eqOk d d = true := by unfold eqOk; rw [h]; simp only [Bool.true_and, decide_eq_true_eq]; omega
  have r := eqv_rfl d h
  cases d <;> first | (simp only [eqB, e, r, if_true]; done) | (cases h; done)
theorem ne_self {d : D} (h : noDict d = true) (hd : d.depth ≤ 64) : neD d d = some (.bool false) := by unfold neD; rw [eqB_self h hd]; rfl
theorem eq_self {d : D} (h : noDict d = true) (hd : d.depth ≤ 64) : eqD d d = some (.bool true) := by unfold eqD; rw [eqB_self h hd]; rfl
theorem depthAll_le {n : Nat} : ∀ {l : List D}, (∀ d ∈ l, d.depth ≤ n) → PyData.depthAll l ≤ n
  | [], _ => Nat.zero_le _
  | a :: l, h => Nat.max_le.mpr ⟨h a List.mem_cons_self, depthAll_le fun b m => h b (List.mem_cons_of_mem _ m)⟩
theorem depth_list {n : Nat} {l : List D} (h : ∀ d ∈ l, d.depth ≤ n) : (PyData.list l).depth ≤ n + 1 := by have := depthAll_le h; simp [PyData.depth]; omega
theorem depth_tuple {n : Nat} {l : List D} (h : ∀ d ∈ l, d.depth ≤ n) : (PyData.tuple l).depth ≤ n + 1 := by have := depthAll_le h; simp [PyData.depth]; omega
theorem depth_stL (xs : List Str) : ∀ d ∈ stL xs, d.depth ≤ 0 := fun d hd => by obtain ⟨x, _, rfl⟩ := List.mem_map.mp hd; exact Nat.le_refl _
theorem ne_tup (xs : List Str) : neD (.tuple (stL xs)) (.tuple (stL xs)) = some (.bool false) := ne_self (noDict_stL xs) (Nat.le_trans (depth_tuple (depth_stL xs)) (by decide))
theorem eq_tup (xs : List Str) : eqD (.tuple (stL xs)) (.tuple (stL xs)) = some (.bool true) := eq_self (noDict_stL xs) (Nat.le_trans (depth_tuple (depth_stL xs)) (by decide))
theorem ne_rounds (rs : List (List Str)) : neD (.list (rs.map tupS)) (.list (rs.map tupS)) = some (.bool false) := ne_self (noDicts_of fun d hd => by obtain ⟨x, _, rfl⟩ := List.mem_map.mp hd; exact noDict_stL x) (Nat.le_trans (depth_list (n := 1) fun d hd => by obtain ⟨x, _, rfl⟩ := List.mem_map.mp hd; exact depth_tuple (depth_stL x)) (by decide))
theorem ne_rows {l : Rows} (h1 : ∀ e ∈ l, noDict e.2 = true) (h2 : ∀ e ∈ l, e.2.depth ≤ 49) : neD (.list (l.map rowD)) (.list (l.map rowD)) = some (.bool false) := ne_self (noDicts_of fun d hd => by
    obtain ⟨e, he, rfl⟩ := List.mem_map.mp hd
    simp [rowD, noDict, noDicts, h1 e he]) (Nat.le_trans (depth_list (n := 50) fun d hd => by
    obtain ⟨e, he, rfl⟩ := List.mem_map.mp hd
    exact depth_tuple (n := 49) fun x hx => by
      rcases List.mem_cons.mp hx with rfl | hx
      · exact Nat.zero_le _
      · rw [List.mem_singleton.mp hx]; exact h2 e he) (by decide))
theorem ne_shR (l : List (Str × Int)) (p : Int) : neD (.list ((rsort (shR p l)).map rowD)) (.list ((rsort (shR p l)).map rowD)) = some (.bool false) := by
  refine ne_rows (fun e he => ?_) fun e he => ?_
  · obtain ⟨r, _, rfl⟩ := List.mem_map.mp ((rsort_perm _).mem_iff.mp he)
    exact low_noDict _ _
  · obtain ⟨r, _, rfl⟩ := List.mem_map.mp ((rsort_perm _).mem_iff.mp he)
    exact low_depth _ _
/-! ### steps -/
def dropK (x a : Option D) (ρ : Rho) : Option Out := match x, a with
  | some (.list ds), some _ => if decide (ds.length < sizeLine) then some (.nx ρ) else none
  | _, _ => none
theorem e_dropApp {f a : F1} {ρ : Rho} : gDropApp f a ρ = dropK (f ρ) (a ρ) ρ := nr (by
  unfold gDropApp dropK
  rcases f ρ with _ | (_ | _ | _ | _ | _ | _ | _) <;> rcases a ρ with _ | _ <;> rfl)
theorem drop_some {ds : List D} {a : D} {ρ : Rho} (h : ds.length < sizeLine) : dropK (some (.list ds)) (some a) ρ = some (.nx ρ) := by
  show (if decide _ = true then _ else _) = _
  rw [if_pos (decide_eq_true h)]
theorem cut_last {α : Type} (xs : List α) (a : α) : cutL (xs ++ [a]) none (some (-1)) = xs := by
  have h := HT.clip_eq (-1) (xs ++ [a]).length (xs ++ [a]).length
  have h1 : HT.sIx (xs ++ [a]).length (xs ++ [a]).length (some (-1)) = xs.length := by
    rw [if_pos (by decide)] at h
    simp only [List.length_append, List.length_singleton] at h ⊢
    omega
  unfold cutL
  rw [HT.sIx_none, h1]
  simp
theorem rnds_len {p q : Int} {c : Cd} : ∀ (n : Nat) (S : Lot), (rnds p q c n S).length ≤ n
  | 0, _ => Nat.le_refl _
  | n + 1, S => by
    simp only [rnds]
    split
    · exact Nat.zero_le _
    · have := rnds_len (p := p) (q := q) (c := c) n (less S (overN p q S c)); simp; omega
/-! ### what each bears -/
theorem holdN_in {c : Cd} {p q : Int} : ∀ x ∈ nms c, inS (holdN p q c) x = holdS p q c x := fun x hx => by
  unfold inS holdN
  rw [Bool.eq_iff_iff, List.contains_iff_mem, ssort_mem, holdS_iff]
  constructor
  · intro h
    obtain ⟨r, hr, rfl⟩ := List.mem_map.mp h
    exact ⟨r.2, hr⟩
  · rintro ⟨q', h⟩
    exact List.mem_map.mpr ⟨_, h, rfl⟩
theorem counts_hold {c : Cd} {p q : Int} (h : Fit c) : Mi.m_law_counts [c.d, .list (stL (holdN p q c))] = some (dS (cR (cnt (holdS p q c) c))) := by
  rw [law_counts_fit h, cnt_congr c _ _ holdN_in]
theorem cnt_shs {c : Cd} {p q : Int} (h : Fit c) (hp : 0 ≤ p) (hq : 0 < q) : shR p (shs p q c) = bR p q (cnt (holdS p q c) c) := by
  rw [← (cnt_hold c p q h.ok hq hp h.nd).1]
  simp [shR, bR, rowC]
theorem cnt_hold_names {c : Cd} {p q : Int} (h : Fit c) (hp : 0 ≤ p) (hq : 0 < q) : (cnt (holdS p q c) c).map (·.1) = (shs p q c).map (·.1) := by
  rw [← (cnt_hold c p q h.ok hq hp h.nd).1]
  simp [rowC]
theorem sort_counts {c : Cd} {p q : Int} (h : Fit c) (hp : 0 ≤ p) (hq : 0 < q) : sortD (dS (cR (cnt (holdS p q c) c))) = some (.list (stL (holdN p q c))) := by
  have hl : (cR (cnt (holdS p q c) c)).length ≤ 16777216 := by
    have := (cnt_sub (holdS p q c) c).length_le
    have h8 := nms_len h
    unfold cR
    rw [List.length_map] at this ⊢
    omega
  rw [sort_dS hl, cR_names, cnt_hold_names h hp hq]
  rfl
/-- share by share -/
theorem share_row {c : Cd} {p q : Int} (h : Fit c) (hp : 0 ≤ p) (hq : 0 < q) (hb : q < 10000) {e : Str × D} (he : e ∈ rsort (shR p (shs p q c))) :
    ∃ p0 q0 k, lowD p q = ldD p0 q0 ∧ q0 < 10000 ∧ (0 : Int) < k ∧ k ≤ 2097152 ∧ ixD (dS (cR (cnt (holdS p q c) c))) (.str e.1) = some (.int k) ∧ Mi.m_law_lowest [.int p0, .int (q0 * k)] = some e.2 := by
  have he2 := (rsort_perm _).mem_iff.mp he
  rw [cnt_shs h hp hq] at he2
  obtain ⟨t, ht, rfl⟩ := List.mem_map.mp he2
  obtain ⟨p0, q0, e1, g1, g2, g3, g4⟩ := low_form hp hq
  have kp := cnt_pos _ c t ht
  have kb := cnt_small h ht
  have kp' : (0 : Int) < t.2.2 := by omega
  have hqk : 0 < q0 * (t.2.2 : Int) := Int.mul_pos g2 kp'
  have hlt : q0 * (t.2.2 : Int) ≤ 10000 * 2097152 := Int.mul_le_mul (by omega) kb (by omega) (by omega)
  refine ⟨p0, q0, t.2.2, e1, by omega, kp', kb, ixS_ok (by rw [cR_names]; exact (cnt_sub _ c).nodup h.nd) (List.mem_map.mpr ⟨t, ht, rfl⟩), ?_⟩
  rw [lowest_ok g1 hqk (by omega), low_eq hqk (Int.mul_pos hq kp') (by rw [← Int.mul_assoc, g4, Int.mul_assoc])]
theorem rsort_str {l : List (Str × Int)} {p : Int} : stL (ssort (l.map (·.1))) = (rsort (shR p l)).map fun e => PyData.str e.1 := by
  rw [← shR_names p l, ← rsort_names]
  simp [stL]
end Fact
set_option maxRecDepth 100000
/-! Breakings of all kinds. -/
namespace Fact
open PySem Pu
theorem brkF_mem {p q : Int} {c : Cd} : ∀ {row bs : List Str}, brkF p q c bs row = true → ∀ x ∈ row, x ∈ nms c
  | [], _, _, x, h => by cases h
  | a :: r, bs, h, x, hx => by
    simp only [brkF, Bool.and_eq_true] at h
    rcases List.mem_cons.mp hx with e | hx
    · rw [e]; exact (overN_mem (by simpa using h.1)).1
    · exact brkF_mem h.2 x hx
theorem drawn_ok {c : Cd} {p q : Int} (h : Fit c) (hp : 0 ≤ p) (hq : 0 < q) (hb : q < 10000) (dr : List Int) (h9 : 9 ≤ dr.length) :
    ∃ row, Mi.m_law_drawn [c.d, lowD p q, nums dr] = some (.list (stL row)) ∧ row.length ≤ 9 ∧ ∀ x ∈ row, x ∈ nms c := by
  obtain ⟨row, a, b, h1, k1, k2, k3, k4⟩ := broken_loop (x2 := .val (nums dr)) h hp hq hb dr h9
  refine ⟨row, ?_, k2, brkF_mem k1⟩
  have hc : cutL (dr.map PyData.int) none (some 9) = (dr.take 9).map .int := by rw [show (9 : Int) = ((9 : Nat) : Int) from rfl, cut_to, List.map_take]
  have h1' : forL (gN 5) (Mi.B_law_drawn_1 Mi.m_law_over) ((dr.take 9).map .int) [.val c.d, .val (lowD p q), .val (nums dr), .own (.list (stL (ssort (nms c)))), .own (.list []), .no, .no] =
      some (.nx [.val c.d, .val (lowD p q), .val (nums dr), .own (.list (stL (rest c row))), .own (.list (stL row)), a, b]) := h1
  simp only [nums] at h1'
  simp only [e_run, e_seq, seq_nx, seq_rt, seq_none, e_skip, e_set, e_own, nxK_some, vK_some, oK_some, e_ret, rtK_some, e_if, ifK_some, e_fVar, e_bVar, va_val, vb_val, vb_own, vb_bor, at_0, at_S, set_0, set_S, e_K, e_f1, o1_some, e_f2, o2_some, e_and, and_t, and_f, and_b, e_or, or_b, e_tOf, to_b, e_tAnd, tand_b, e_tOr, tor_b, e_tNot, not_b, e_tYes, e_fIf, fif_b, e_nil, e_cons, cons_some, e_tup, tup_some, e_lst, lst_some, e_call, call_some, e_m1, e_m2, e_sSeq, seqs_l, seqs_t, seqs_s, e_for, for_some, e_asg, tg_some, e_gN, e_gT2, e_gT3, e_frz, frz_own, e_retOwn, ch_b, e_lc, co_some, lc_some, wipe_nil, wipe_cons, end_rt, end_nx, pt_none, pt_some, int_some, e_cut, cut_l, cut_t, e_app, e_sRng, pad_0, sl_f, sl_t, sl_nil, add_i, sub_i, lt_i, le_i, gt_i, ge_i, neg_i, not_d, len_l, len_t, ix_l, ix_t, max2_i, min2_i, tup_l, tup_t, lst_l, lst_t, rev_l, rev_t, bool_i, bool_b, int_b, isn_n, e_chain, e_par, e_m3, List.length_cons, List.length_nil, List.replicate, List.cons_append, List.nil_append, Option.map_some, Nat.reduceAdd, Nat.reduceSub, Nat.zero_add, if_true, if_false, ite_true, ite_false, Bool.false_eq_true, reduceCtorEq, decide_true, decide_false, not_true, not_false_iff, Bool.not_true, Bool.not_false, Bool.and_true, Bool.true_and, Bool.and_false, Bool.false_and, Bool.or_true, Bool.true_or, Bool.or_false, Bool.false_or, Mi.m_law_drawn, Mi.G_law_drawn, names_ok h, e_par, nums, hc, h1']
/-- whether a thing is a breaking -/
def brkT (p q : Int) (c : Cd) : D → Bool
  | .list ds => brkD p q c [] ds
  | _ => false
def szL : D → Nat
  | .list ds => ds.length
  | _ => 0
theorem is_breaking_any {c : Cd} {p q : Int} {d : D} (h : Fit c) (hp : 0 ≤ p) (hq : 0 < q) (hb : q < 10000) (hn : noDict d = true) (hl : szL d ≤ 100000) :
    Mi.m_is_breaking [c.d, lowD p q, d] = some (.bool (brkT p q c d)) := by
  cases d with
  | list ds => exact is_breaking_ok h hp hq hb (by simpa [noDict] using hn) (by simpa [szL] using hl)
  | dict _ => cases hn
  | none => simp only [e_run, e_seq, seq_nx, seq_rt, seq_none, e_skip, e_set, e_own, nxK_some, vK_some, oK_some, e_ret, rtK_some, e_if, ifK_some, e_fVar, e_bVar, va_val, vb_val, vb_own, vb_bor, at_0, at_S, set_0, set_S, e_K, e_f1, o1_some, e_f2, o2_some, e_and, and_t, and_f, and_b, e_or, or_b, e_tOf, to_b, e_tAnd, tand_b, e_tOr, tor_b, e_tNot, not_b, e_tYes, e_fIf, fif_b, e_nil, e_cons, cons_some, e_tup, tup_some, e_lst, lst_some, e_call, call_some, e_m1, e_m2, e_sSeq, seqs_l, seqs_t, seqs_s, e_for, for_some, e_asg, tg_some, e_gN, e_gT2, e_gT3, e_frz, frz_own, e_retOwn, ch_b, e_lc, co_some, lc_some, wipe_nil, wipe_cons, end_rt, end_nx, pt_none, pt_some, int_some, e_cut, cut_l, cut_t, e_app, e_sRng, pad_0, sl_f, sl_t, sl_nil, add_i, sub_i, lt_i, le_i, gt_i, ge_i, neg_i, not_d, len_l, len_t, ix_l, ix_t, max2_i, min2_i, tup_l, tup_t, lst_l, lst_t, rev_l, rev_t, bool_i, bool_b, int_b, isn_n, e_chain, e_par, e_m3, List.length_cons, List.length_nil, List.replicate, List.cons_append, List.nil_append, Option.map_some, Nat.reduceAdd, Nat.reduceSub, Nat.zero_add, if_true, if_false, ite_true, ite_false, Bool.false_eq_true, reduceCtorEq, decide_true, decide_false, not_true, not_false_iff, Bool.not_true, Bool.not_false, Bool.and_true, Bool.true_and, Bool.and_false, Bool.false_and, Bool.or_true, Bool.true_or, Bool.or_false, Bool.false_or, Mi.m_is_breaking, Mi.G_is_breaking, show isInst .list .none = some (.bool false) from rfl]; rfl
  | bool b => simp only [e_run, e_seq, seq_nx, seq_rt, seq_none, e_skip, e_set, e_own, nxK_some, vK_some, oK_some, e_ret, rtK_some, e_if, ifK_some, e_fVar, e_bVar, va_val, vb_val, vb_own, vb_bor, at_0, at_S, set_0, set_S, e_K, e_f1, o1_some, e_f2, o2_some, e_and, and_t, and_f, and_b, e_or, or_b, e_tOf, to_b, e_tAnd, tand_b, e_tOr, tor_b, e_tNot, not_b, e_tYes, e_fIf, fif_b, e_nil, e_cons, cons_some, e_tup, tup_some, e_lst, lst_some, e_call, call_some, e_m1, e_m2, e_sSeq, seqs_l, seqs_t, seqs_s, e_for, for_some, e_asg, tg_some, e_gN, e_gT2, e_gT3, e_frz, frz_own, e_retOwn, ch_b, e_lc, co_some, lc_some, wipe_nil, wipe_cons, end_rt, end_nx, pt_none, pt_some, int_some, e_cut, cut_l, cut_t, e_app, e_sRng, pad_0, sl_f, sl_t, sl_nil, add_i, sub_i, lt_i, le_i, gt_i, ge_i, neg_i, not_d, len_l, len_t, ix_l, ix_t, max2_i, min2_i, tup_l, tup_t, lst_l, lst_t, rev_l, rev_t, bool_i, bool_b, int_b, isn_n, e_chain, e_par, e_m3, List.length_cons, List.length_nil, List.replicate, List.cons_append, List.nil_append, Option.map_some, Nat.reduceAdd, Nat.reduceSub, Nat.zero_add, if_true, if_false, ite_true, ite_false, Bool.false_eq_true, reduceCtorEq, decide_true, decide_false, not_true, not_false_iff, Bool.not_true, Bool.not_false, Bool.and_true, Bool.true_and, Bool.and_false, Bool.false_and, Bool.or_true, Bool.true_or, Bool.or_false, Bool.false_or, Mi.m_is_breaking, Mi.G_is_breaking, show isInst .list (.bool b) = some (.bool false) from rfl]; rfl
  | int b => simp only [e_run, e_seq, seq_nx, seq_rt, seq_none, e_skip, e_set, e_own, nxK_some, vK_some, oK_some, e_ret, rtK_some, e_if, ifK_some, e_fVar, e_bVar, va_val, vb_val, vb_own, vb_bor, at_0, at_S, set_0, set_S, e_K, e_f1, o1_some, e_f2, o2_some, e_and, and_t, and_f, and_b, e_or, or_b, e_tOf, to_b, e_tAnd, tand_b, e_tOr, tor_b, e_tNot, not_b, e_tYes, e_fIf, fif_b, e_nil, e_cons, cons_some, e_tup, tup_some, e_lst, lst_some, e_call, call_some, e_m1, e_m2, e_sSeq, seqs_l, seqs_t, seqs_s, e_for, for_some, e_asg, tg_some, e_gN, e_gT2, e_gT3, e_frz, frz_own, e_retOwn, ch_b, e_lc, co_some, lc_some, wipe_nil, wipe_cons, end_rt, end_nx, pt_none, pt_some, int_some, e_cut, cut_l, cut_t, e_app, e_sRng, pad_0, sl_f, sl_t, sl_nil, add_i, sub_i, lt_i, le_i, gt_i, ge_i, neg_i, not_d, len_l, len_t, ix_l, ix_t, max2_i, min2_i, tup_l, tup_t, lst_l, lst_t, rev_l, rev_t, bool_i, bool_b, int_b, isn_n, e_chain, e_par, e_m3, List.length_cons, List.length_nil, List.replicate, List.cons_append, List.nil_append, Option.map_some, Nat.reduceAdd, Nat.reduceSub, Nat.zero_add, if_true, if_false, ite_true, ite_false, Bool.false_eq_true, reduceCtorEq, decide_true, decide_false, not_true, not_false_iff, Bool.not_true, Bool.not_false, Bool.and_true, Bool.true_and, Bool.and_false, Bool.false_and, Bool.or_true, Bool.true_or, Bool.or_false, Bool.false_or, Mi.m_is_breaking, Mi.G_is_breaking, show isInst .list (.int b) = some (.bool false) from rfl]; rfl
  | str b => simp only [e_run, e_seq, seq_nx, seq_rt, seq_none, e_skip, e_set, e_own, nxK_some, vK_some, oK_some, e_ret, rtK_some, e_if, ifK_some, e_fVar, e_bVar, va_val, vb_val, vb_own, vb_bor, at_0, at_S, set_0, set_S, e_K, e_f1, o1_some, e_f2, o2_some, e_and, and_t, and_f, and_b, e_or, or_b, e_tOf, to_b, e_tAnd, tand_b, e_tOr, tor_b, e_tNot, not_b, e_tYes, e_fIf, fif_b, e_nil, e_cons, cons_some, e_tup, tup_some, e_lst, lst_some, e_call, call_some, e_m1, e_m2, e_sSeq, seqs_l, seqs_t, seqs_s, e_for, for_some, e_asg, tg_some, e_gN, e_gT2, e_gT3, e_frz, frz_own, e_retOwn, ch_b, e_lc, co_some, lc_some, wipe_nil, wipe_cons, end_rt, end_nx, pt_none, pt_some, int_some, e_cut, cut_l, cut_t, e_app, e_sRng, pad_0, sl_f, sl_t, sl_nil, add_i, sub_i, lt_i, le_i, gt_i, ge_i, neg_i, not_d, len_l, len_t, ix_l, ix_t, max2_i, min2_i, tup_l, tup_t, lst_l, lst_t, rev_l, rev_t, bool_i, bool_b, int_b, isn_n, e_chain, e_par, e_m3, List.length_cons, List.length_nil, List.replicate, List.cons_append, List.nil_append, Option.map_some, Nat.reduceAdd, Nat.reduceSub, Nat.zero_add, if_true, if_false, ite_true, ite_false, Bool.false_eq_true, reduceCtorEq, decide_true, decide_false, not_true, not_false_iff, Bool.not_true, Bool.not_false, Bool.and_true, Bool.true_and, Bool.and_false, Bool.false_and, Bool.or_true, Bool.true_or, Bool.or_false, Bool.false_or, Mi.m_is_breaking, Mi.G_is_breaking, show isInst .list (.str b) = some (.bool false) from rfl]; rfl
  | tuple b => simp only [e_run, e_seq, seq_nx, seq_rt, seq_none, e_skip, e_set, e_own, nxK_some, vK_some, oK_some, e_ret, rtK_some, e_if, ifK_some, e_fVar, e_bVar, va_val, vb_val, vb_own, vb_bor, at_0, at_S, set_0, set_S, e_K, e_f1, o1_some, e_f2, o2_some, e_and, and_t, and_f, and_b, e_or, or_b, e_tOf, to_b, e_tAnd, tand_b, e_tOr, tor_b, e_tNot, not_b, e_tYes, e_fIf, fif_b, e_nil, e_cons, cons_some, e_tup, tup_some, e_lst, lst_some, e_call, call_some, e_m1, e_m2, e_sSeq, seqs_l, seqs_t, seqs_s, e_for, for_some, e_asg, tg_some, e_gN, e_gT2, e_gT3, e_frz, frz_own, e_retOwn, ch_b, e_lc, co_some, lc_some, wipe_nil, wipe_cons, end_rt, end_nx, pt_none, pt_some, int_some, e_cut, cut_l, cut_t, e_app, e_sRng, pad_0, sl_f, sl_t, sl_nil, add_i, sub_i, lt_i, le_i, gt_i, ge_i, neg_i, not_d, len_l, len_t, ix_l, ix_t, max2_i, min2_i, tup_l, tup_t, lst_l, lst_t, rev_l, rev_t, bool_i, bool_b, int_b, isn_n, e_chain, e_par, e_m3, List.length_cons, List.length_nil, List.replicate, List.cons_append, List.nil_append, Option.map_some, Nat.reduceAdd, Nat.reduceSub, Nat.zero_add, if_true, if_false, ite_true, ite_false, Bool.false_eq_true, reduceCtorEq, decide_true, decide_false, not_true, not_false_iff, Bool.not_true, Bool.not_false, Bool.and_true, Bool.true_and, Bool.and_false, Bool.false_and, Bool.or_true, Bool.true_or, Bool.or_false, Bool.false_or, Mi.m_is_breaking, Mi.G_is_breaking, show isInst .list (.tuple b) = some (.bool false) from rfl]; rfl
theorem law_brk_loop {c : Cd} {p q : Int} {thing : D} (h : Fit c) (hp : 0 ≤ p) (hq : 0 < q) (hb : q < 10000) : ∀ (ds : List D) (bs : List Str) (c4 : Slot), noDicts ds = true →
    (brkD p q c bs ds = false ∧ forL (gN 4) (Mi.B_law_is_breaking_1 Mi.m_law_over) ds [.val c.d, .val (lowD p q), .val thing, .own (.list (stL (rest c bs))), c4] = some (.rt (.bool false))) ∨
    ∃ bs' c4', brkD p q c bs ds = (overN p q (notS bs') c).isEmpty ∧ forL (gN 4) (Mi.B_law_is_breaking_1 Mi.m_law_over) ds [.val c.d, .val (lowD p q), .val thing, .own (.list (stL (rest c bs))), c4] = some (.nx [.val c.d, .val (lowD p q), .val thing, .own (.list (stL (rest c bs'))), c4'])
  | [], bs, c4, _ => Or.inr ⟨bs, c4, rfl, rfl⟩
  | d :: ds, bs, c4, hn => by
    obtain ⟨n1, n2⟩ := (by simpa [noDicts] using hn : noDict d = true ∧ noDicts ds = true)
    have tm := over_rest h hp hq hb bs
    have step : ∀ o, Mi.B_law_is_breaking_1 Mi.m_law_over [.val c.d, .val (lowD p q), .val thing, .own (.list (stL (rest c bs))), .val d] = some o →
        forL (gN 4) (Mi.B_law_is_breaking_1 Mi.m_law_over) (d :: ds) [.val c.d, .val (lowD p q), .val thing, .own (.list (stL (rest c bs))), c4] = match o with
          | .nx ρ => forL (gN 4) (Mi.B_law_is_breaking_1 Mi.m_law_over) ds ρ
          | .rt r => some (.rt r) := fun o ho => by
      show (Option.bind (some _) fun ρ1 => (Mi.B_law_is_breaking_1 Mi.m_law_over ρ1).bind _) = _
      simp only [Option.bind_some, set_0, set_S, ho] <;> (cases o <;> rfl)
    cases hd : isT .str d with
    | false =>
      have e : brkD p q c bs (d :: ds) = false := by cases d <;> first | rfl | cases hd
      refine Or.inl ⟨e, ?_⟩
      rw [step (.rt (.bool false)) (by simp only [e_run, e_seq, seq_nx, seq_rt, seq_none, e_skip, e_set, e_own, nxK_some, vK_some, oK_some, e_ret, rtK_some, e_if, ifK_some, e_fVar, e_bVar, va_val, vb_val, vb_own, vb_bor, at_0, at_S, set_0, set_S, e_K, e_f1, o1_some, e_f2, o2_some, e_and, and_t, and_f, and_b, e_or, or_b, e_tOf, to_b, e_tAnd, tand_b, e_tOr, tor_b, e_tNot, not_b, e_tYes, e_fIf, fif_b, e_nil, e_cons, cons_some, e_tup, tup_some, e_lst, lst_some, e_call, call_some, e_m1, e_m2, e_sSeq, seqs_l, seqs_t, seqs_s, e_for, for_some, e_asg, tg_some, e_gN, e_gT2, e_gT3, e_frz, frz_own, e_retOwn, ch_b, e_lc, co_some, lc_some, wipe_nil, wipe_cons, end_rt, end_nx, pt_none, pt_some, int_some, e_cut, cut_l, cut_t, e_app, e_sRng, pad_0, sl_f, sl_t, sl_nil, add_i, sub_i, lt_i, le_i, gt_i, ge_i, neg_i, not_d, len_l, len_t, ix_l, ix_t, max2_i, min2_i, tup_l, tup_t, lst_l, lst_t, rev_l, rev_t, bool_i, bool_b, int_b, isn_n, e_chain, e_par, e_m3, List.length_cons, List.length_nil, List.replicate, List.cons_append, List.nil_append, Option.map_some, Nat.reduceAdd, Nat.reduceSub, Nat.zero_add, if_true, if_false, ite_true, ite_false, Bool.false_eq_true, reduceCtorEq, decide_true, decide_false, not_true, not_false_iff, Bool.not_true, Bool.not_false, Bool.and_true, Bool.true_and, Bool.and_false, Bool.false_and, Bool.or_true, Bool.true_or, Bool.or_false, Bool.false_or, Mi.B_law_is_breaking_1, is_str_d n1, hd])]
    | true =>
      cases d <;> first | cases hd | skip
      rename_i x
      cases hx : (overN p q (notS bs) c).contains x with
      | false =>
        refine Or.inl ⟨by simp only [brkD, hx, Bool.false_and], ?_⟩
        rw [step (.rt (.bool false)) (by simp only [e_run, e_seq, seq_nx, seq_rt, seq_none, e_skip, e_set, e_own, nxK_some, vK_some, oK_some, e_ret, rtK_some, e_if, ifK_some, e_fVar, e_bVar, va_val, vb_val, vb_own, vb_bor, at_0, at_S, set_0, set_S, e_K, e_f1, o1_some, e_f2, o2_some, e_and, and_t, and_f, and_b, e_or, or_b, e_tOf, to_b, e_tAnd, tand_b, e_tOr, tor_b, e_tNot, not_b, e_tYes, e_fIf, fif_b, e_nil, e_cons, cons_some, e_tup, tup_some, e_lst, lst_some, e_call, call_some, e_m1, e_m2, e_sSeq, seqs_l, seqs_t, seqs_s, e_for, for_some, e_asg, tg_some, e_gN, e_gT2, e_gT3, e_frz, frz_own, e_retOwn, ch_b, e_lc, co_some, lc_some, wipe_nil, wipe_cons, end_rt, end_nx, pt_none, pt_some, int_some, e_cut, cut_l, cut_t, e_app, e_sRng, pad_0, sl_f, sl_t, sl_nil, add_i, sub_i, lt_i, le_i, gt_i, ge_i, neg_i, not_d, len_l, len_t, ix_l, ix_t, max2_i, min2_i, tup_l, tup_t, lst_l, lst_t, rev_l, rev_t, bool_i, bool_b, int_b, isn_n, e_chain, e_par, e_m3, List.length_cons, List.length_nil, List.replicate, List.cons_append, List.nil_append, Option.map_some, Nat.reduceAdd, Nat.reduceSub, Nat.zero_add, if_true, if_false, ite_true, ite_false, Bool.false_eq_true, reduceCtorEq, decide_true, decide_false, not_true, not_false_iff, Bool.not_true, Bool.not_false, Bool.and_true, Bool.true_and, Bool.and_false, Bool.false_and, Bool.or_true, Bool.true_or, Bool.or_false, Bool.false_or, Mi.B_law_is_breaking_1, inst_s, tm, notin_l, hx])]
      | true =>
        have hxm : x ∈ rest c bs := by
          obtain ⟨a1, a2⟩ := overN_mem (p := p) (q := q) (S := notS bs) (c := c) (x := x) (by simpa using hx)
          exact rest_mem.mpr ⟨a1, a2⟩
        have hrem := rem_ok (i := 3) (f := fVar 4) (ρ := [.val c.d, .val (lowD p q), .val thing, .own (.list (stL (rest c bs))), .val (.str x)]) (ls := rest c bs) (x := x) rfl (by simp only [e_run, e_seq, seq_nx, seq_rt, seq_none, e_skip, e_set, e_own, nxK_some, vK_some, oK_some, e_ret, rtK_some, e_if, ifK_some, e_fVar, e_bVar, va_val, vb_val, vb_own, vb_bor, at_0, at_S, set_0, set_S, e_K, e_f1, o1_some, e_f2, o2_some, e_and, and_t, and_f, and_b, e_or, or_b, e_tOf, to_b, e_tAnd, tand_b, e_tOr, tor_b, e_tNot, not_b, e_tYes, e_fIf, fif_b, e_nil, e_cons, cons_some, e_tup, tup_some, e_lst, lst_some, e_call, call_some, e_m1, e_m2, e_sSeq, seqs_l, seqs_t, seqs_s, e_for, for_some, e_asg, tg_some, e_gN, e_gT2, e_gT3, e_frz, frz_own, e_retOwn, ch_b, e_lc, co_some, lc_some, wipe_nil, wipe_cons, end_rt, end_nx, pt_none, pt_some, int_some, e_cut, cut_l, cut_t, e_app, e_sRng, pad_0, sl_f, sl_t, sl_nil, add_i, sub_i, lt_i, le_i, gt_i, ge_i, neg_i, not_d, len_l, len_t, ix_l, ix_t, max2_i, min2_i, tup_l, tup_t, lst_l, lst_t, rev_l, rev_t, bool_i, bool_b, int_b, isn_n, e_chain, e_par, e_m3, List.length_cons, List.length_nil, List.replicate, List.cons_append, List.nil_append, Option.map_some, Nat.reduceAdd, Nat.reduceSub, Nat.zero_add, if_true, if_false, ite_true, ite_false, Bool.false_eq_true, reduceCtorEq, decide_true, decide_false, not_true, not_false_iff, Bool.not_true, Bool.not_false, Bool.and_true, Bool.true_and, Bool.and_false, Bool.false_and, Bool.or_true, Bool.true_or, Bool.or_false, Bool.false_or]) hxm
        rw [rest_erase h] at hrem
        have st := step (.nx [.val c.d, .val (lowD p q), .val thing, .own (.list (stL (rest c (bs ++ [x])))), .val (.str x)]) (by simp only [e_run, e_seq, seq_nx, seq_rt, seq_none, e_skip, e_set, e_own, nxK_some, vK_some, oK_some, e_ret, rtK_some, e_if, ifK_some, e_fVar, e_bVar, va_val, vb_val, vb_own, vb_bor, at_0, at_S, set_0, set_S, e_K, e_f1, o1_some, e_f2, o2_some, e_and, and_t, and_f, and_b, e_or, or_b, e_tOf, to_b, e_tAnd, tand_b, e_tOr, tor_b, e_tNot, not_b, e_tYes, e_fIf, fif_b, e_nil, e_cons, cons_some, e_tup, tup_some, e_lst, lst_some, e_call, call_some, e_m1, e_m2, e_sSeq, seqs_l, seqs_t, seqs_s, e_for, for_some, e_asg, tg_some, e_gN, e_gT2, e_gT3, e_frz, frz_own, e_retOwn, ch_b, e_lc, co_some, lc_some, wipe_nil, wipe_cons, end_rt, end_nx, pt_none, pt_some, int_some, e_cut, cut_l, cut_t, e_app, e_sRng, pad_0, sl_f, sl_t, sl_nil, add_i, sub_i, lt_i, le_i, gt_i, ge_i, neg_i, not_d, len_l, len_t, ix_l, ix_t, max2_i, min2_i, tup_l, tup_t, lst_l, lst_t, rev_l, rev_t, bool_i, bool_b, int_b, isn_n, e_chain, e_par, e_m3, List.length_cons, List.length_nil, List.replicate, List.cons_append, List.nil_append, Option.map_some, Nat.reduceAdd, Nat.reduceSub, Nat.zero_add, if_true, if_false, ite_true, ite_false, Bool.false_eq_true, reduceCtorEq, decide_true, decide_false, not_true, not_false_iff, Bool.not_true, Bool.not_false, Bool.and_true, Bool.true_and, Bool.and_false, Bool.false_and, Bool.or_true, Bool.true_or, Bool.or_false, Bool.false_or, Mi.B_law_is_breaking_1, inst_s, tm, notin_l, hx, hrem])
        have ih := law_brk_loop (thing := thing) h hp hq hb ds (bs ++ [x]) (.val (.str x)) n2
        have e3 : brkD p q c bs (.str x :: ds) = brkD p q c (bs ++ [x]) ds := by simp only [brkD, hx, Bool.true_and]
        rw [e3, st]
        exact ih
theorem law_is_breaking_any {c : Cd} {p q : Int} {d : D} (h : Fit c) (hp : 0 ≤ p) (hq : 0 < q) (hb : q < 10000) (hn : noDict d = true) :
    Mi.m_law_is_breaking [c.d, lowD p q, d] = some (.bool (brkT p q c d)) := by
  cases d with
  | list ds =>
    have hi : isInst .list (.list ds) = some (.bool true) := rfl
    have hnm := names_ok h
    rcases law_brk_loop (thing := .list ds) h hp hq hb ds [] .no (by simpa [noDict] using hn) with ⟨e1, e2⟩ | ⟨bs', c4', e1, e2⟩
    · rw [rest_nil] at e2
      simp only [brkT]
      rw [e1]
      simp only [e_run, e_seq, seq_nx, seq_rt, seq_none, e_skip, e_set, e_own, nxK_some, vK_some, oK_some, e_ret, rtK_some, e_if, ifK_some, e_fVar, e_bVar, va_val, vb_val, vb_own, vb_bor, at_0, at_S, set_0, set_S, e_K, e_f1, o1_some, e_f2, o2_some, e_and, and_t, and_f, and_b, e_or, or_b, e_tOf, to_b, e_tAnd, tand_b, e_tOr, tor_b, e_tNot, not_b, e_tYes, e_fIf, fif_b, e_nil, e_cons, cons_some, e_tup, tup_some, e_lst, lst_some, e_call, call_some, e_m1, e_m2, e_sSeq, seqs_l, seqs_t, seqs_s, e_for, for_some, e_asg, tg_some, e_gN, e_gT2, e_gT3, e_frz, frz_own, e_retOwn, ch_b, e_lc, co_some, lc_some, wipe_nil, wipe_cons, end_rt, end_nx, pt_none, pt_some, int_some, e_cut, cut_l, cut_t, e_app, e_sRng, pad_0, sl_f, sl_t, sl_nil, add_i, sub_i, lt_i, le_i, gt_i, ge_i, neg_i, not_d, len_l, len_t, ix_l, ix_t, max2_i, min2_i, tup_l, tup_t, lst_l, lst_t, rev_l, rev_t, bool_i, bool_b, int_b, isn_n, e_chain, e_par, e_m3, List.length_cons, List.length_nil, List.replicate, List.cons_append, List.nil_append, Option.map_some, Nat.reduceAdd, Nat.reduceSub, Nat.zero_add, if_true, if_false, ite_true, ite_false, Bool.false_eq_true, reduceCtorEq, decide_true, decide_false, not_true, not_false_iff, Bool.not_true, Bool.not_false, Bool.and_true, Bool.true_and, Bool.and_false, Bool.false_and, Bool.or_true, Bool.true_or, Bool.or_false, Bool.false_or, Mi.m_law_is_breaking, Mi.G_law_is_breaking, hi, hnm, e2]
    · rw [rest_nil] at e2
      simp only [brkT]
      rw [e1]
      have tm := over_rest h hp hq hb bs'
      simp only [e_run, e_seq, seq_nx, seq_rt, seq_none, e_skip, e_set, e_own, nxK_some, vK_some, oK_some, e_ret, rtK_some, e_if, ifK_some, e_fVar, e_bVar, va_val, vb_val, vb_own, vb_bor, at_0, at_S, set_0, set_S, e_K, e_f1, o1_some, e_f2, o2_some, e_and, and_t, and_f, and_b, e_or, or_b, e_tOf, to_b, e_tAnd, tand_b, e_tOr, tor_b, e_tNot, not_b, e_tYes, e_fIf, fif_b, e_nil, e_cons, cons_some, e_tup, tup_some, e_lst, lst_some, e_call, call_some, e_m1, e_m2, e_sSeq, seqs_l, seqs_t, seqs_s, e_for, for_some, e_asg, tg_some, e_gN, e_gT2, e_gT3, e_frz, frz_own, e_retOwn, ch_b, e_lc, co_some, lc_some, wipe_nil, wipe_cons, end_rt, end_nx, pt_none, pt_some, int_some, e_cut, cut_l, cut_t, e_app, e_sRng, pad_0, sl_f, sl_t, sl_nil, add_i, sub_i, lt_i, le_i, gt_i, ge_i, neg_i, not_d, len_l, len_t, ix_l, ix_t, max2_i, min2_i, tup_l, tup_t, lst_l, lst_t, rev_l, rev_t, bool_i, bool_b, int_b, isn_n, e_chain, e_par, e_m3, List.length_cons, List.length_nil, List.replicate, List.cons_append, List.nil_append, Option.map_some, Nat.reduceAdd, Nat.reduceSub, Nat.zero_add, if_true, if_false, ite_true, ite_false, Bool.false_eq_true, reduceCtorEq, decide_true, decide_false, not_true, not_false_iff, Bool.not_true, Bool.not_false, Bool.and_true, Bool.true_and, Bool.and_false, Bool.false_and, Bool.or_true, Bool.true_or, Bool.or_false, Bool.false_or, Mi.m_law_is_breaking, Mi.G_law_is_breaking, hi, hnm, e2, tm, eq_stL]
  | dict _ => cases hn
  | none => simp only [e_run, e_seq, seq_nx, seq_rt, seq_none, e_skip, e_set, e_own, nxK_some, vK_some, oK_some, e_ret, rtK_some, e_if, ifK_some, e_fVar, e_bVar, va_val, vb_val, vb_own, vb_bor, at_0, at_S, set_0, set_S, e_K, e_f1, o1_some, e_f2, o2_some, e_and, and_t, and_f, and_b, e_or, or_b, e_tOf, to_b, e_tAnd, tand_b, e_tOr, tor_b, e_tNot, not_b, e_tYes, e_fIf, fif_b, e_nil, e_cons, cons_some, e_tup, tup_some, e_lst, lst_some, e_call, call_some, e_m1, e_m2, e_sSeq, seqs_l, seqs_t, seqs_s, e_for, for_some, e_asg, tg_some, e_gN, e_gT2, e_gT3, e_frz, frz_own, e_retOwn, ch_b, e_lc, co_some, lc_some, wipe_nil, wipe_cons, end_rt, end_nx, pt_none, pt_some, int_some, e_cut, cut_l, cut_t, e_app, e_sRng, pad_0, sl_f, sl_t, sl_nil, add_i, sub_i, lt_i, le_i, gt_i, ge_i, neg_i, not_d, len_l, len_t, ix_l, ix_t, max2_i, min2_i, tup_l, tup_t, lst_l, lst_t, rev_l, rev_t, bool_i, bool_b, int_b, isn_n, e_chain, e_par, e_m3, List.length_cons, List.length_nil, List.replicate, List.cons_append, List.nil_append, Option.map_some, Nat.reduceAdd, Nat.reduceSub, Nat.zero_add, if_true, if_false, ite_true, ite_false, Bool.false_eq_true, reduceCtorEq, decide_true, decide_false, not_true, not_false_iff, Bool.not_true, Bool.not_false, Bool.and_true, Bool.true_and, Bool.and_false, Bool.false_and, Bool.or_true, Bool.true_or, Bool.or_false, Bool.false_or, Mi.m_law_is_breaking, Mi.G_law_is_breaking, show isInst .list .none = some (.bool false) from rfl]; rfl
  | bool b => simp only [e_run, e_seq, seq_nx, seq_rt, seq_none, e_skip, e_set, e_own, nxK_some, vK_some, oK_some, e_ret, rtK_some, e_if, ifK_some, e_fVar, e_bVar, va_val, vb_val, vb_own, vb_bor, at_0, at_S, set_0, set_S, e_K, e_f1, o1_some, e_f2, o2_some, e_and, and_t, and_f, and_b, e_or, or_b, e_tOf, to_b, e_tAnd, tand_b, e_tOr, tor_b, e_tNot, not_b, e_tYes, e_fIf, fif_b, e_nil, e_cons, cons_some, e_tup, tup_some, e_lst, lst_some, e_call, call_some, e_m1, e_m2, e_sSeq, seqs_l, seqs_t, seqs_s, e_for, for_some, e_asg, tg_some, e_gN, e_gT2, e_gT3, e_frz, frz_own, e_retOwn, ch_b, e_lc, co_some, lc_some, wipe_nil, wipe_cons, end_rt, end_nx, pt_none, pt_some, int_some, e_cut, cut_l, cut_t, e_app, e_sRng, pad_0, sl_f, sl_t, sl_nil, add_i, sub_i, lt_i, le_i, gt_i, ge_i, neg_i, not_d, len_l, len_t, ix_l, ix_t, max2_i, min2_i, tup_l, tup_t, lst_l, lst_t, rev_l, rev_t, bool_i, bool_b, int_b, isn_n, e_chain, e_par, e_m3, List.length_cons, List.length_nil, List.replicate, List.cons_append, List.nil_append, Option.map_some, Nat.reduceAdd, Nat.reduceSub, Nat.zero_add, if_true, if_false, ite_true, ite_false, Bool.false_eq_true, reduceCtorEq, decide_true, decide_false, not_true, not_false_iff, Bool.not_true, Bool.not_false, Bool.and_true, Bool.true_and, Bool.and_false, Bool.false_and, Bool.or_true, Bool.true_or, Bool.or_false, Bool.false_or, Mi.m_law_is_breaking, Mi.G_law_is_breaking, show isInst .list (.bool b) = some (.bool false) from rfl]; rfl
  | int b => simp only [e_run, e_seq, seq_nx, seq_rt, seq_none, e_skip, e_set, e_own, nxK_some, vK_some, oK_some, e_ret, rtK_some, e_if, ifK_some, e_fVar, e_bVar, va_val, vb_val, vb_own, vb_bor, at_0, at_S, set_0, set_S, e_K, e_f1, o1_some, e_f2, o2_some, e_and, and_t, and_f, and_b, e_or, or_b, e_tOf, to_b, e_tAnd, tand_b, e_tOr, tor_b, e_tNot, not_b, e_tYes, e_fIf, fif_b, e_nil, e_cons, cons_some, e_tup, tup_some, e_lst, lst_some, e_call, call_some, e_m1, e_m2, e_sSeq, seqs_l, seqs_t, seqs_s, e_for, for_some, e_asg, tg_some, e_gN, e_gT2, e_gT3, e_frz, frz_own, e_retOwn, ch_b, e_lc, co_some, lc_some, wipe_nil, wipe_cons, end_rt, end_nx, pt_none, pt_some, int_some, e_cut, cut_l, cut_t, e_app, e_sRng, pad_0, sl_f, sl_t, sl_nil, add_i, sub_i, lt_i, le_i, gt_i, ge_i, neg_i, not_d, len_l, len_t, ix_l, ix_t, max2_i, min2_i, tup_l, tup_t, lst_l, lst_t, rev_l, rev_t, bool_i, bool_b, int_b, isn_n, e_chain, e_par, e_m3, List.length_cons, List.length_nil, List.replicate, List.cons_append, List.nil_append, Option.map_some, Nat.reduceAdd, Nat.reduceSub, Nat.zero_add, if_true, if_false, ite_true, ite_false, Bool.false_eq_true, reduceCtorEq, decide_true, decide_false, not_true, not_false_iff, Bool.not_true, Bool.not_false, Bool.and_true, Bool.true_and, Bool.and_false, Bool.false_and, Bool.or_true, Bool.true_or, Bool.or_false, Bool.false_or, Mi.m_law_is_breaking, Mi.G_law_is_breaking, show isInst .list (.int b) = some (.bool false) from rfl]; rfl
  | str b => simp only [e_run, e_seq, seq_nx, seq_rt, seq_none, e_skip, e_set, e_own, nxK_some, vK_some, oK_some, e_ret, rtK_some, e_if, ifK_some, e_fVar, e_bVar, va_val, vb_val, vb_own, vb_bor, at_0, at_S, set_0, set_S, e_K, e_f1, o1_some, e_f2, o2_some, e_and, and_t, and_f, and_b, e_or, or_b, e_tOf, to_b, e_tAnd, tand_b, e_tOr, tor_b, e_tNot, not_b, e_tYes, e_fIf, fif_b, e_nil, e_cons, cons_some, e_tup, tup_some, e_lst, lst_some, e_call, call_some, e_m1, e_m2, e_sSeq, seqs_l, seqs_t, seqs_s, e_for, for_some, e_asg, tg_some, e_gN, e_gT2, e_gT3, e_frz, frz_own, e_retOwn, ch_b, e_lc, co_some, lc_some, wipe_nil, wipe_cons, end_rt, end_nx, pt_none, pt_some, int_some, e_cut, cut_l, cut_t, e_app, e_sRng, pad_0, sl_f, sl_t, sl_nil, add_i, sub_i, lt_i, le_i, gt_i, ge_i, neg_i, not_d, len_l, len_t, ix_l, ix_t, max2_i, min2_i, tup_l, tup_t, lst_l, lst_t, rev_l, rev_t, bool_i, bool_b, int_b, isn_n, e_chain, e_par, e_m3, List.length_cons, List.length_nil, List.replicate, List.cons_append, List.nil_append, Option.map_some, Nat.reduceAdd, Nat.reduceSub, Nat.zero_add, if_true, if_false, ite_true, ite_false, Bool.false_eq_true, reduceCtorEq, decide_true, decide_false, not_true, not_false_iff, Bool.not_true, Bool.not_false, Bool.and_true, Bool.true_and, Bool.and_false, Bool.false_and, Bool.or_true, Bool.true_or, Bool.or_false, Bool.false_or, Mi.m_law_is_breaking, Mi.G_law_is_breaking, show isInst .list (.str b) = some (.bool false) from rfl]; rfl
  | tuple b => simp only [e_run, e_seq, seq_nx, seq_rt, seq_none, e_skip, e_set, e_own, nxK_some, vK_some, oK_some, e_ret, rtK_some, e_if, ifK_some, e_fVar, e_bVar, va_val, vb_val, vb_own, vb_bor, at_0, at_S, set_0, set_S, e_K, e_f1, o1_some, e_f2, o2_some, e_and, and_t, and_f, and_b, e_or, or_b, e_tOf, to_b, e_tAnd, tand_b, e_tOr, tor_b, e_tNot, not_b, e_tYes, e_fIf, fif_b, e_nil, e_cons, cons_some, e_tup, tup_some, e_lst, lst_some, e_call, call_some, e_m1, e_m2, e_sSeq, seqs_l, seqs_t, seqs_s, e_for, for_some, e_asg, tg_some, e_gN, e_gT2, e_gT3, e_frz, frz_own, e_retOwn, ch_b, e_lc, co_some, lc_some, wipe_nil, wipe_cons, end_rt, end_nx, pt_none, pt_some, int_some, e_cut, cut_l, cut_t, e_app, e_sRng, pad_0, sl_f, sl_t, sl_nil, add_i, sub_i, lt_i, le_i, gt_i, ge_i, neg_i, not_d, len_l, len_t, ix_l, ix_t, max2_i, min2_i, tup_l, tup_t, lst_l, lst_t, rev_l, rev_t, bool_i, bool_b, int_b, isn_n, e_chain, e_par, e_m3, List.length_cons, List.length_nil, List.replicate, List.cons_append, List.nil_append, Option.map_some, Nat.reduceAdd, Nat.reduceSub, Nat.zero_add, if_true, if_false, ite_true, ite_false, Bool.false_eq_true, reduceCtorEq, decide_true, decide_false, not_true, not_false_iff, Bool.not_true, Bool.not_false, Bool.and_true, Bool.true_and, Bool.and_false, Bool.false_and, Bool.or_true, Bool.true_or, Bool.or_false, Bool.false_or, Mi.m_law_is_breaking, Mi.G_law_is_breaking, show isInst .list (.tuple b) = some (.bool false) from rfl]; rfl
theorem truly_ok (b : Bool) : Mi.m_law_truly [.bool b, .bool b] = some (.bool true) := by
  have h1 : isInst .bool (.bool b) = some (.bool true) := rfl
  have h2 : eqD (.bool b) (.bool b) = some (.bool true) := eq_self rfl (by simp [PyData.depth])
  simp only [e_run, e_seq, seq_nx, seq_rt, seq_none, e_skip, e_set, e_own, nxK_some, vK_some, oK_some, e_ret, rtK_some, e_if, ifK_some, e_fVar, e_bVar, va_val, vb_val, vb_own, vb_bor, at_0, at_S, set_0, set_S, e_K, e_f1, o1_some, e_f2, o2_some, e_and, and_t, and_f, and_b, e_or, or_b, e_tOf, to_b, e_tAnd, tand_b, e_tOr, tor_b, e_tNot, not_b, e_tYes, e_fIf, fif_b, e_nil, e_cons, cons_some, e_tup, tup_some, e_lst, lst_some, e_call, call_some, e_m1, e_m2, e_sSeq, seqs_l, seqs_t, seqs_s, e_for, for_some, e_asg, tg_some, e_gN, e_gT2, e_gT3, e_frz, frz_own, e_retOwn, ch_b, e_lc, co_some, lc_some, wipe_nil, wipe_cons, end_rt, end_nx, pt_none, pt_some, int_some, e_cut, cut_l, cut_t, e_app, e_sRng, pad_0, sl_f, sl_t, sl_nil, add_i, sub_i, lt_i, le_i, gt_i, ge_i, neg_i, not_d, len_l, len_t, ix_l, ix_t, max2_i, min2_i, tup_l, tup_t, lst_l, lst_t, rev_l, rev_t, bool_i, bool_b, int_b, isn_n, e_chain, e_par, e_m3, List.length_cons, List.length_nil, List.replicate, List.cons_append, List.nil_append, Option.map_some, Nat.reduceAdd, Nat.reduceSub, Nat.zero_add, if_true, if_false, ite_true, ite_false, Bool.false_eq_true, reduceCtorEq, decide_true, decide_false, not_true, not_false_iff, Bool.not_true, Bool.not_false, Bool.and_true, Bool.true_and, Bool.and_false, Bool.false_and, Bool.or_true, Bool.true_or, Bool.or_false, Bool.false_or, Mi.m_law_truly, Mi.G_law_truly, h1, h2]
end Fact
set_option maxRecDepth 100000
/-! Loads one after another. -/
namespace Fact
open PySem Pu
abbrev Lds := List (Int × Int)
def LdOk (l : Lds) : Prop := ∀ e ∈ l, 0 ≤ e.1 ∧ 0 < e.2 ∧ e.2 < 10000
def ldL (l : Lds) : List D := l.map fun e => lowD e.1 e.2
theorem fin_congr {p q : Int} {c : Cd} : ∀ (n : Nat) {S T : Lot}, (∀ x ∈ nms c, S x = T x) → ∀ x ∈ nms c, fin p q c n S x = fin p q c n T x
  | 0, _, _, h => h
  | n + 1, S, T, h => by
    intro x hx
    simp only [fin, overN_congr (p := p) (q := q) h]
    split
    · exact h x hx
    · exact fin_congr n (fun y hy => by simp only [less, h y hy]) x hx
/-- what the rounds break -/
theorem rnds_fin {p q : Int} {c : Cd} : ∀ (n : Nat) (S : Lot) (x : Str), x ∈ nms c → ((rnds p q c n S).flatten.contains x = (S x && !fin p q c n S x))
  | 0, S, x, _ => by simp [rnds, fin]
  | n + 1, S, x, hx => by
    simp only [rnds, fin]
    split
    · simp
    · have ih := rnds_fin (p := p) (q := q) n (less S (overN p q S c)) x hx
      rw [List.flatten_cons]
      have e : ∀ a b : List Str, (a ++ b).contains x = (a.contains x || b.contains x) := fun a b => by rw [Bool.eq_iff_iff]; simp
      rw [e, ih]
      cases ho : (overN p q S c).contains x with
      | true =>
        have hm := overN_mem (p := p) (q := q) (S := S) (c := c) (x := x) (by simpa using ho)
        have hl : less S (overN p q S c) x = false := by unfold less; rw [ho, Bool.not_true, Bool.and_false]
        have hf : fin p q c n (less S (overN p q S c)) x = false := by
          cases hf : fin p q c n (less S (overN p q S c)) x with
          | false => rfl
          | true => have := fin_sub n _ x hf; rw [hl] at this; cases this
        rw [hm.2, hf]
        rfl
      | false =>
        have hl : less S (overN p q S c) x = S x := by unfold less; rw [ho]; simp
        rw [hl, Bool.false_or]
theorem rnds_in {p q : Int} {c : Cd} : ∀ (n : Nat) (S : Lot), ∀ x ∈ (rnds p q c n S).flatten, x ∈ nms c ∧ S x = true
  | 0, _, x, h => by simp [rnds] at h
  | n + 1, S, x, h => by
    simp only [rnds] at h
    split at h
    · simp at h
    · rw [List.flatten_cons, List.mem_append] at h
      rcases h with h | h
      · exact overN_mem h
      · have := rnds_in n _ x h
        refine ⟨this.1, ?_⟩
        have h2 := this.2
        simp only [less, Bool.and_eq_true] at h2
        exact h2.1
theorem overN_nd {p q : Int} {c : Cd} (h : Fit c) (S : Lot) : (overN p q S c).Nodup := (ssort_perm _).nodup_iff.mpr ((over_sub p q S c).nodup (h.nd.filter _))
theorem rnds_nd {p q : Int} {c : Cd} (h : Fit c) : ∀ (n : Nat) (S : Lot), (rnds p q c n S).flatten.Nodup
  | 0, _ => List.nodup_nil
  | n + 1, S => by
    simp only [rnds]
    split
    · exact List.nodup_nil
    · rw [List.flatten_cons, List.nodup_append]
      refine ⟨overN_nd h S, rnds_nd h n _, fun a ha b hb e => ?_⟩
      subst e
      have := (rnds_in n _ a hb).2
      simp only [less, Bool.and_eq_true, Bool.not_eq_true'] at this
      simp [ha] at this
theorem rnds_perm {p q : Int} {c : Cd} (h : Fit c) (n : Nat) (S : Lot) : (rnds p q c n S).flatten.Perm ((nms c).filter fun x => S x && !fin p q c n S x) :=
  perm_of_mem (rnds_nd h n S) (h.nd.filter _) fun x => by
    rw [List.mem_filter]
    constructor
    · intro hx
      have hm := (rnds_in n S x hx).1
      refine ⟨hm, ?_⟩
      rw [← rnds_fin n S x hm]
      simpa using hx
    · rintro ⟨hm, hx⟩
      rw [← rnds_fin n S x hm] at hx
      simpa using hx
theorem rnds_flat_len {p q : Int} {c : Cd} (h : Fit c) (n : Nat) (S : Lot) : (rnds p q c n S).flatten.length ≤ 8 := by
  rw [(rnds_perm h n S).length_eq]
  exact Nat.le_trans (List.length_filter_le _ _) (nms_len h)
/-- after loads -/
def seqS (c : Cd) : Lds → Lot → Lot
  | [], S => S
  | e :: r, S => seqS c r (fin e.1 e.2 c 9 S)
/-- who breaks by each load -/
def brkN (c : Cd) (e : Int × Int) (S : Lot) : List Str := ssort ((nms c).filter fun x => S x && !fin e.1 e.2 c 9 S x)
def rowsS (c : Cd) : Lds → Lot → List (List Str)
  | [], _ => []
  | e :: r, S => brkN c e S :: rowsS c r (fin e.1 e.2 c 9 S)
theorem seqS_app {c : Cd} {e : Int × Int} : ∀ (l : Lds) (S : Lot), seqS c (l ++ [e]) S = fin e.1 e.2 c 9 (seqS c l S)
  | [], _ => rfl
  | _ :: r, S => seqS_app r _
theorem rowsS_app {c : Cd} {e : Int × Int} : ∀ (l : Lds) (S : Lot), rowsS c (l ++ [e]) S = rowsS c l S ++ [brkN c e (seqS c l S)]
  | [], _ => rfl
  | a :: r, S => by simp only [List.cons_append, rowsS, rowsS_app r, seqS]
theorem rowsS_len {c : Cd} : ∀ (l : Lds) (S : Lot), (rowsS c l S).length = l.length
  | [], _ => rfl
  | a :: r, S => by simp [rowsS, rowsS_len r]
theorem finG_two {p q : Int} {c : Cd} : ∀ (n : Nat) (a b : List Str), finG (fun s : List Str × List Str => notS s.2) (fun s o => (s.1 ++ o, s.2 ++ o)) p q c n (a, b) = (a ++ (rnds p q c n (notS b)).flatten, b ++ (rnds p q c n (notS b)).flatten) ∧
    notS (b ++ (rnds p q c n (notS b)).flatten) = fin p q c n (notS b)
  | 0, a, b => by simp [finG, rnds, fin]
  | n + 1, a, b => by
    by_cases h : overN p q (notS b) c = []
    · simp [finG, rnds, fin, h]
    · obtain ⟨i1, i2⟩ := finG_two (p := p) (q := q) (c := c) n (a ++ overN p q (notS b) c) (b ++ overN p q (notS b) c)
      rw [notS_less b (overN p q (notS b) c)] at i1 i2
      simp only [finG, rnds, fin, h, if_false, i1, List.flatten_cons, List.append_assoc, true_and]
      rw [← List.append_assoc, i2]
theorem broken_rows_ok {c : Cd} {loads : Lds} (h : Fit c) (hl : LdOk loads) (hn : loads.length ≤ 1000) :
    Mi.m_broken_rows [c.d, .tuple (ldL loads)] = some (.list ((rowsS c loads (notS [])).map tupS)) := by
  obtain ⟨ρ', h1, bs, s4, s5, s6, k1, k2, rfl⟩ := forL_map (enc := fun e : Int × Int => lowD e.1 e.2) (tg := gN 4) (body := Mi.B_broken_rows_2 Mi.m_too_much) (full := loads) (xs := loads) (pre := [])
    (ρ := [.val c.d, .val (.tuple (ldL loads)), .own (.list []), .val (.list []), .no, .no, .no])
    (I := fun pre ρ => ∃ bs s4 s5 s6, notS bs = seqS c pre (notS []) ∧ bs.length ≤ 8 * pre.length ∧ ρ = [.val c.d, .val (.tuple (ldL loads)), .own (.list ((rowsS c pre (notS [])).map tupS)), .val (.list (stL bs)), s4, s5, s6]) rfl
    ⟨[], _, _, _, rfl, by simp, rfl⟩ fun pre e post ρ he ⟨bs, s4, s5, s6, k1, k2, hρ⟩ => by
      subst hρ
      obtain ⟨hp, hq, hb⟩ := hl e (by rw [he]; simp)
      have hpl : pre.length < 1000 := by
        have := congrArg List.length he
        rw [List.length_append, List.length_cons] at this
        omega
      have h0 := too_much_ok (bs := bs) h hp hq hb
      have hw := while_over (L := fun s : List Str × List Str => notS s.2) (nx := fun s o => (s.1 ++ o, s.2 ++ o)) (p := e.1) (q := e.2) (c := c) (M := 100) (Iv := fun s rs => s.1.length ≤ 8 * rs.length ∧ s.2.length ≤ 10000 + 8 * rs.length)
        (t := tOf (f2 neD (bVar 6) (fLst []))) (body := Mi.B_broken_rows_1 Mi.m_too_much)
        (mk := fun s rs => [.val c.d, .val (.tuple (ldL loads)), .own (.list ((rowsS c pre (notS [])).map tupS)), .val (.list (stL s.2)), .val (lowD e.1 e.2), .val (.list (stL s.1)), .val (.list (stL (overN e.1 e.2 (notS s.2) c)))]) (fun s o => notS_less s.2 o)
        (fun s rs _ => by simp only [e_run, e_seq, seq_nx, seq_rt, seq_none, e_skip, e_set, e_own, nxK_some, vK_some, oK_some, e_ret, rtK_some, e_if, ifK_some, e_fVar, e_bVar, va_val, vb_val, vb_own, vb_bor, at_0, at_S, set_0, set_S, e_K, e_f1, o1_some, e_f2, o2_some, e_and, and_t, and_f, and_b, e_or, or_b, e_tOf, to_b, e_tAnd, tand_b, e_tOr, tor_b, e_tNot, not_b, e_tYes, e_fIf, fif_b, e_nil, e_cons, cons_some, e_tup, tup_some, e_lst, lst_some, e_call, call_some, e_m1, e_m2, e_sSeq, seqs_l, seqs_t, seqs_s, e_for, for_some, e_asg, tg_some, e_gN, e_gT2, e_gT3, e_frz, frz_own, e_retOwn, ch_b, e_lc, co_some, lc_some, wipe_nil, wipe_cons, end_rt, end_nx, pt_none, pt_some, int_some, e_cut, cut_l, cut_t, e_app, e_sRng, pad_0, sl_f, sl_t, sl_nil, add_i, sub_i, lt_i, le_i, gt_i, ge_i, neg_i, not_d, len_l, len_t, ix_l, ix_t, max2_i, min2_i, tup_l, tup_t, lst_l, lst_t, rev_l, rev_t, bool_i, bool_b, int_b, isn_n, e_chain, e_par, e_m3, List.length_cons, List.length_nil, List.replicate, List.cons_append, List.nil_append, Option.map_some, Nat.reduceAdd, Nat.reduceSub, Nat.zero_add, if_true, if_false, ite_true, ite_false, Bool.false_eq_true, reduceCtorEq, decide_true, decide_false, not_true, not_false_iff, Bool.not_true, Bool.not_false, Bool.and_true, Bool.true_and, Bool.and_false, Bool.false_and, Bool.or_true, Bool.true_or, Bool.or_false, Bool.false_or, ne_stL]) (fun s rs hI hr hne => by
          have h8 := over_len8 (p := e.1) (q := e.2) (S := notS s.2) h
          refine ⟨?_, by simp only [List.length_append, List.length_singleton]; omega⟩
          have hadd := add_l (x := stL s.1) (y := stL (overN e.1 e.2 (notS s.2) c)) (by rw [stL_len, stL_len]; exact Nat.le_trans (show _ ≤ 1000 by omega) (by decide))
          have hadd2 := add_l (x := stL s.2) (y := stL (overN e.1 e.2 (notS s.2) c)) (by rw [stL_len, stL_len]; exact Nat.le_trans (show _ ≤ 20000 by omega) (by decide))
          have e2 : ∀ a : List Str, stL a ++ stL (overN e.1 e.2 (notS s.2) c) = stL (a ++ overN e.1 e.2 (notS s.2) c) := fun a => by simp [stL]
          rw [e2] at hadd hadd2
          simp only [e_run, e_seq, seq_nx, seq_rt, seq_none, e_skip, e_set, e_own, nxK_some, vK_some, oK_some, e_ret, rtK_some, e_if, ifK_some, e_fVar, e_bVar, va_val, vb_val, vb_own, vb_bor, at_0, at_S, set_0, set_S, e_K, e_f1, o1_some, e_f2, o2_some, e_and, and_t, and_f, and_b, e_or, or_b, e_tOf, to_b, e_tAnd, tand_b, e_tOr, tor_b, e_tNot, not_b, e_tYes, e_fIf, fif_b, e_nil, e_cons, cons_some, e_tup, tup_some, e_lst, lst_some, e_call, call_some, e_m1, e_m2, e_sSeq, seqs_l, seqs_t, seqs_s, e_for, for_some, e_asg, tg_some, e_gN, e_gT2, e_gT3, e_frz, frz_own, e_retOwn, ch_b, e_lc, co_some, lc_some, wipe_nil, wipe_cons, end_rt, end_nx, pt_none, pt_some, int_some, e_cut, cut_l, cut_t, e_app, e_sRng, pad_0, sl_f, sl_t, sl_nil, add_i, sub_i, lt_i, le_i, gt_i, ge_i, neg_i, not_d, len_l, len_t, ix_l, ix_t, max2_i, min2_i, tup_l, tup_t, lst_l, lst_t, rev_l, rev_t, bool_i, bool_b, int_b, isn_n, e_chain, e_par, e_m3, List.length_cons, List.length_nil, List.replicate, List.cons_append, List.nil_append, Option.map_some, Nat.reduceAdd, Nat.reduceSub, Nat.zero_add, if_true, if_false, ite_true, ite_false, Bool.false_eq_true, reduceCtorEq, decide_true, decide_false, not_true, not_false_iff, Bool.not_true, Bool.not_false, Bool.and_true, Bool.true_and, Bool.and_false, Bool.false_and, Bool.or_true, Bool.true_or, Bool.or_false, Bool.false_or, Mi.B_broken_rows_1, e_par, hadd, hadd2, too_much_ok h hp hq hb])
        9 1000000000000000000000000 ([], bs) [] ⟨by simp, by simp only [List.length_nil]; omega⟩ (Nat.le_trans (left_le _ h) (by decide)) (by decide) (by decide)
      obtain ⟨f1, f2⟩ := finG_two (p := e.1) (q := e.2) (c := c) 9 [] bs
      rw [f1, List.nil_append] at hw
      have hfl := rnds_flat_len (p := e.1) (q := e.2) h 9 (notS bs)
      have hs := sort_strs (xs := (rnds e.1 e.2 c 9 (notS bs)).flatten) (by omega)
      have e5 : ssort (rnds e.1 e.2 c 9 (notS bs)).flatten = brkN c e (seqS c pre (notS [])) := by
        rw [ssort_congr (rnds_perm h 9 (notS bs)), k1]
        rfl
      rw [e5] at hs
      have hap : ((rowsS c pre (notS [])).map tupS).length < sizeLine := by rw [List.length_map, rowsS_len]; exact Nat.lt_trans hpl (by decide)
      have e6 : (PyData.tuple (stL (brkN c e (seqS c pre (notS []))))) = tupS (brkN c e (seqS c pre (notS []))) := rfl
      refine ⟨_, _, rfl, ?_, bs ++ (rnds e.1 e.2 c 9 (notS bs)).flatten, .val (lowD e.1 e.2), .val (.list (stL (rnds e.1 e.2 c 9 (notS bs)).flatten)), .val (.list (stL (overN e.1 e.2 (notS (bs ++ (rnds e.1 e.2 c 9 (notS bs)).flatten)) c))), by rw [f2, seqS_app, k1], by simp only [List.length_append, List.length_singleton]; omega, rfl⟩
      rw [rowsS_app, List.map_append, List.map_cons, List.map_nil]
      simp only [show stL [] = [] from rfl] at hw
      simp only [e_run, e_seq, seq_nx, seq_rt, seq_none, e_skip, e_set, e_own, nxK_some, vK_some, oK_some, e_ret, rtK_some, e_if, ifK_some, e_fVar, e_bVar, va_val, vb_val, vb_own, vb_bor, at_0, at_S, set_0, set_S, e_K, e_f1, o1_some, e_f2, o2_some, e_and, and_t, and_f, and_b, e_or, or_b, e_tOf, to_b, e_tAnd, tand_b, e_tOr, tor_b, e_tNot, not_b, e_tYes, e_fIf, fif_b, e_nil, e_cons, cons_some, e_tup, tup_some, e_lst, lst_some, e_call, call_some, e_m1, e_m2, e_sSeq, seqs_l, seqs_t, seqs_s, e_for, for_some, e_asg, tg_some, e_gN, e_gT2, e_gT3, e_frz, frz_own, e_retOwn, ch_b, e_lc, co_some, lc_some, wipe_nil, wipe_cons, end_rt, end_nx, pt_none, pt_some, int_some, e_cut, cut_l, cut_t, e_app, e_sRng, pad_0, sl_f, sl_t, sl_nil, add_i, sub_i, lt_i, le_i, gt_i, ge_i, neg_i, not_d, len_l, len_t, ix_l, ix_t, max2_i, min2_i, tup_l, tup_t, lst_l, lst_t, rev_l, rev_t, bool_i, bool_b, int_b, isn_n, e_chain, e_par, e_m3, List.length_cons, List.length_nil, List.replicate, List.cons_append, List.nil_append, Option.map_some, Nat.reduceAdd, Nat.reduceSub, Nat.zero_add, if_true, if_false, ite_true, ite_false, Bool.false_eq_true, reduceCtorEq, decide_true, decide_false, not_true, not_false_iff, Bool.not_true, Bool.not_false, Bool.and_true, Bool.true_and, Bool.and_false, Bool.false_and, Bool.or_true, Bool.true_or, Bool.or_false, Bool.false_or, Mi.B_broken_rows_2, h0, gWhile, hw, hs, e6, app_some hap]
  have e7 : (loads.map fun e => lowD e.1 e.2) = ldL loads := rfl
  rw [e7] at h1
  simp only [e_run, e_seq, seq_nx, seq_rt, seq_none, e_skip, e_set, e_own, nxK_some, vK_some, oK_some, e_ret, rtK_some, e_if, ifK_some, e_fVar, e_bVar, va_val, vb_val, vb_own, vb_bor, at_0, at_S, set_0, set_S, e_K, e_f1, o1_some, e_f2, o2_some, e_and, and_t, and_f, and_b, e_or, or_b, e_tOf, to_b, e_tAnd, tand_b, e_tOr, tor_b, e_tNot, not_b, e_tYes, e_fIf, fif_b, e_nil, e_cons, cons_some, e_tup, tup_some, e_lst, lst_some, e_call, call_some, e_m1, e_m2, e_sSeq, seqs_l, seqs_t, seqs_s, e_for, for_some, e_asg, tg_some, e_gN, e_gT2, e_gT3, e_frz, frz_own, e_retOwn, ch_b, e_lc, co_some, lc_some, wipe_nil, wipe_cons, end_rt, end_nx, pt_none, pt_some, int_some, e_cut, cut_l, cut_t, e_app, e_sRng, pad_0, sl_f, sl_t, sl_nil, add_i, sub_i, lt_i, le_i, gt_i, ge_i, neg_i, not_d, len_l, len_t, ix_l, ix_t, max2_i, min2_i, tup_l, tup_t, lst_l, lst_t, rev_l, rev_t, bool_i, bool_b, int_b, isn_n, e_chain, e_par, e_m3, List.length_cons, List.length_nil, List.replicate, List.cons_append, List.nil_append, Option.map_some, Nat.reduceAdd, Nat.reduceSub, Nat.zero_add, if_true, if_false, ite_true, ite_false, Bool.false_eq_true, reduceCtorEq, decide_true, decide_false, not_true, not_false_iff, Bool.not_true, Bool.not_false, Bool.and_true, Bool.true_and, Bool.and_false, Bool.false_and, Bool.or_true, Bool.true_or, Bool.or_false, Bool.false_or, Mi.m_broken_rows, Mi.G_broken_rows, e_par, h1, e_retOwn]
theorem broken_by_ok {c : Cd} {loads : Lds} (h : Fit c) (hl : LdOk loads) (hn : loads.length ≤ 1000) :
    Mi.m_broken_by [c.d, .tuple (ldL loads)] = some (.list ((rowsS c loads (notS [])).map tupS)) := by
  simp only [e_run, e_seq, seq_nx, seq_rt, seq_none, e_skip, e_set, e_own, nxK_some, vK_some, oK_some, e_ret, rtK_some, e_if, ifK_some, e_fVar, e_bVar, va_val, vb_val, vb_own, vb_bor, at_0, at_S, set_0, set_S, e_K, e_f1, o1_some, e_f2, o2_some, e_and, and_t, and_f, and_b, e_or, or_b, e_tOf, to_b, e_tAnd, tand_b, e_tOr, tor_b, e_tNot, not_b, e_tYes, e_fIf, fif_b, e_nil, e_cons, cons_some, e_tup, tup_some, e_lst, lst_some, e_call, call_some, e_m1, e_m2, e_sSeq, seqs_l, seqs_t, seqs_s, e_for, for_some, e_asg, tg_some, e_gN, e_gT2, e_gT3, e_frz, frz_own, e_retOwn, ch_b, e_lc, co_some, lc_some, wipe_nil, wipe_cons, end_rt, end_nx, pt_none, pt_some, int_some, e_cut, cut_l, cut_t, e_app, e_sRng, pad_0, sl_f, sl_t, sl_nil, add_i, sub_i, lt_i, le_i, gt_i, ge_i, neg_i, not_d, len_l, len_t, ix_l, ix_t, max2_i, min2_i, tup_l, tup_t, lst_l, lst_t, rev_l, rev_t, bool_i, bool_b, int_b, isn_n, e_chain, e_par, e_m3, List.length_cons, List.length_nil, List.replicate, List.cons_append, List.nil_append, Option.map_some, Nat.reduceAdd, Nat.reduceSub, Nat.zero_add, if_true, if_false, ite_true, ite_false, Bool.false_eq_true, reduceCtorEq, decide_true, decide_false, not_true, not_false_iff, Bool.not_true, Bool.not_false, Bool.and_true, Bool.true_and, Bool.and_false, Bool.false_and, Bool.or_true, Bool.true_or, Bool.or_false, Bool.false_or, Mi.m_broken_by, Mi.G_broken_by, broken_rows_ok h hl hn]
theorem seqS_sub {c : Cd} {x : Str} : ∀ (l : Lds) (S : Lot), seqS c l S x = true → S x = true
  | [], _, h => h
  | e :: r, S, h => fin_sub 9 S x (seqS_sub r _ h)
theorem rows_flat {c : Cd} {x : Str} (hx : x ∈ nms c) : ∀ (l : Lds) (S : Lot), (rowsS c l S).flatten.contains x = (S x && !seqS c l S x)
  | [], S => by simp [rowsS, seqS]
  | e :: r, S => by
    have ih := rows_flat hx r (fin e.1 e.2 c 9 S)
    have ea : ∀ a b : List Str, (a ++ b).contains x = (a.contains x || b.contains x) := fun a b => by rw [Bool.eq_iff_iff]; simp
    simp only [rowsS, seqS, List.flatten_cons]
    rw [ea, ih]
    have eb : (brkN c e S).contains x = (S x && !fin e.1 e.2 c 9 S x) := by
      rw [Bool.eq_iff_iff]
      unfold brkN
      rw [List.contains_iff_mem, ssort_mem, List.mem_filter]
      exact ⟨fun g => g.2, fun g => ⟨hx, g⟩⟩
    rw [eb]
    cases hf : fin e.1 e.2 c 9 S x with
    | true => rw [fin_sub 9 S x hf]; rfl
    | false =>
      cases hq : seqS c r (fin e.1 e.2 c 9 S) x with
      | true => have := seqS_sub r _ hq; rw [hf] at this; cases this
      | false => simp
theorem rows_flat_len {c : Cd} (h : Fit c) : ∀ (l : Lds) (S : Lot), (rowsS c l S).flatten.length ≤ 8 * l.length
  | [], _ => Nat.le_refl _
  | e :: r, S => by
    have := rows_flat_len h r (fin e.1 e.2 c 9 S)
    have h8 : (brkN c e S).length ≤ 8 := by
      unfold brkN
      rw [(ssort_perm _).length_eq]
      exact Nat.le_trans (List.length_filter_le _ _) (nms_len h)
    simp only [rowsS, List.flatten_cons, List.length_append, List.length_cons]
    omega
/-- the names that are in a lot, rising -/
def lotN (c : Cd) (S : Lot) : List Str := (ssort (nms c)).filter S
theorem behind_ok {c : Cd} {loads : Lds} (h : Fit c) (hl : LdOk loads) (hn : loads.length ≤ 1000) :
    Mi.m_behind [c.d, .tuple (ldL loads)] = some (.tuple (stL (lotN c (seqS c loads (notS []))))) := by
  have hc := compL2_of (tg := gN 3) (src1 := sSeq (fVar 3)) (vs1 := [4]) (tg1 := gN 4) (e := fVar 4) (ρ := [.val c.d, .val (.tuple (ldL loads)), .no, .no, .no, .no]) (enc := tupS) (g := fun r : List Str => r) (enc2 := PyData.str) (f := PyData.str) (xs := rowsS c loads (notS [])) fun r _ =>
    ⟨_, rfl, by simp only [tupS]; simp only [e_run, e_seq, seq_nx, seq_rt, seq_none, e_skip, e_set, e_own, nxK_some, vK_some, oK_some, e_ret, rtK_some, e_if, ifK_some, e_fVar, e_bVar, va_val, vb_val, vb_own, vb_bor, at_0, at_S, set_0, set_S, e_K, e_f1, o1_some, e_f2, o2_some, e_and, and_t, and_f, and_b, e_or, or_b, e_tOf, to_b, e_tAnd, tand_b, e_tOr, tor_b, e_tNot, not_b, e_tYes, e_fIf, fif_b, e_nil, e_cons, cons_some, e_tup, tup_some, e_lst, lst_some, e_call, call_some, e_m1, e_m2, e_sSeq, seqs_l, seqs_t, seqs_s, e_for, for_some, e_asg, tg_some, e_gN, e_gT2, e_gT3, e_frz, frz_own, e_retOwn, ch_b, e_lc, co_some, lc_some, wipe_nil, wipe_cons, end_rt, end_nx, pt_none, pt_some, int_some, e_cut, cut_l, cut_t, e_app, e_sRng, pad_0, sl_f, sl_t, sl_nil, add_i, sub_i, lt_i, le_i, gt_i, ge_i, neg_i, not_d, len_l, len_t, ix_l, ix_t, max2_i, min2_i, tup_l, tup_t, lst_l, lst_t, rev_l, rev_t, bool_i, bool_b, int_b, isn_n, e_chain, e_par, e_m3, List.length_cons, List.length_nil, List.replicate, List.cons_append, List.nil_append, Option.map_some, Nat.reduceAdd, Nat.reduceSub, Nat.zero_add, if_true, if_false, ite_true, ite_false, Bool.false_eq_true, reduceCtorEq, decide_true, decide_false, not_true, not_false_iff, Bool.not_true, Bool.not_false, Bool.and_true, Bool.true_and, Bool.and_false, Bool.false_and, Bool.or_true, Bool.true_or, Bool.or_false, Bool.false_or]; rfl, fun y _ => ⟨_, rfl, by simp only [e_run, e_seq, seq_nx, seq_rt, seq_none, e_skip, e_set, e_own, nxK_some, vK_some, oK_some, e_ret, rtK_some, e_if, ifK_some, e_fVar, e_bVar, va_val, vb_val, vb_own, vb_bor, at_0, at_S, set_0, set_S, e_K, e_f1, o1_some, e_f2, o2_some, e_and, and_t, and_f, and_b, e_or, or_b, e_tOf, to_b, e_tAnd, tand_b, e_tOr, tor_b, e_tNot, not_b, e_tYes, e_fIf, fif_b, e_nil, e_cons, cons_some, e_tup, tup_some, e_lst, lst_some, e_call, call_some, e_m1, e_m2, e_sSeq, seqs_l, seqs_t, seqs_s, e_for, for_some, e_asg, tg_some, e_gN, e_gT2, e_gT3, e_frz, frz_own, e_retOwn, ch_b, e_lc, co_some, lc_some, wipe_nil, wipe_cons, end_rt, end_nx, pt_none, pt_some, int_some, e_cut, cut_l, cut_t, e_app, e_sRng, pad_0, sl_f, sl_t, sl_nil, add_i, sub_i, lt_i, le_i, gt_i, ge_i, neg_i, not_d, len_l, len_t, ix_l, ix_t, max2_i, min2_i, tup_l, tup_t, lst_l, lst_t, rev_l, rev_t, bool_i, bool_b, int_b, isn_n, e_chain, e_par, e_m3, List.length_cons, List.length_nil, List.replicate, List.cons_append, List.nil_append, Option.map_some, Nat.reduceAdd, Nat.reduceSub, Nat.zero_add, if_true, if_false, ite_true, ite_false, Bool.false_eq_true, reduceCtorEq, decide_true, decide_false, not_true, not_false_iff, Bool.not_true, Bool.not_false, Bool.and_true, Bool.true_and, Bool.and_false, Bool.false_and, Bool.or_true, Bool.true_or, Bool.or_false, Bool.false_or]⟩⟩
  rw [List.flatMap_id'] at hc
  have e1 : (rowsS c loads (notS [])).flatten.map PyData.str = stL (rowsS c loads (notS [])).flatten := rfl
  rw [e1] at hc
  have hfl := rows_flat_len h loads (notS [])
  have hf : fitsL (stL (rowsS c loads (notS [])).flatten).length = true := fitsL_small (by rw [stL_len]; omega)
  have hc2 : compL (gT2 4 5) (tOf (f2 notInD (bVar 4) (bVar 2))) (fVar 4) [.val c.d, .val (.tuple (ldL loads)), .val (.list (stL (rowsS c loads (notS [])).flatten)), .no, .no, .no] (c.ss.map strD) = some ((c.ss.filter fun s => !(rowsS c loads (notS [])).flatten.contains s.1).map fun s => .str s.1) :=
    compL_ofIf fun s _ => ⟨_, rfl, by simp only [e_run, e_seq, seq_nx, seq_rt, seq_none, e_skip, e_set, e_own, nxK_some, vK_some, oK_some, e_ret, rtK_some, e_if, ifK_some, e_fVar, e_bVar, va_val, vb_val, vb_own, vb_bor, at_0, at_S, set_0, set_S, e_K, e_f1, o1_some, e_f2, o2_some, e_and, and_t, and_f, and_b, e_or, or_b, e_tOf, to_b, e_tAnd, tand_b, e_tOr, tor_b, e_tNot, not_b, e_tYes, e_fIf, fif_b, e_nil, e_cons, cons_some, e_tup, tup_some, e_lst, lst_some, e_call, call_some, e_m1, e_m2, e_sSeq, seqs_l, seqs_t, seqs_s, e_for, for_some, e_asg, tg_some, e_gN, e_gT2, e_gT3, e_frz, frz_own, e_retOwn, ch_b, e_lc, co_some, lc_some, wipe_nil, wipe_cons, end_rt, end_nx, pt_none, pt_some, int_some, e_cut, cut_l, cut_t, e_app, e_sRng, pad_0, sl_f, sl_t, sl_nil, add_i, sub_i, lt_i, le_i, gt_i, ge_i, neg_i, not_d, len_l, len_t, ix_l, ix_t, max2_i, min2_i, tup_l, tup_t, lst_l, lst_t, rev_l, rev_t, bool_i, bool_b, int_b, isn_n, e_chain, e_par, e_m3, List.length_cons, List.length_nil, List.replicate, List.cons_append, List.nil_append, Option.map_some, Nat.reduceAdd, Nat.reduceSub, Nat.zero_add, if_true, if_false, ite_true, ite_false, Bool.false_eq_true, reduceCtorEq, decide_true, decide_false, not_true, not_false_iff, Bool.not_true, Bool.not_false, Bool.and_true, Bool.true_and, Bool.and_false, Bool.false_and, Bool.or_true, Bool.true_or, Bool.or_false, Bool.false_or, notin_l], fun _ => by simp only [e_run, e_seq, seq_nx, seq_rt, seq_none, e_skip, e_set, e_own, nxK_some, vK_some, oK_some, e_ret, rtK_some, e_if, ifK_some, e_fVar, e_bVar, va_val, vb_val, vb_own, vb_bor, at_0, at_S, set_0, set_S, e_K, e_f1, o1_some, e_f2, o2_some, e_and, and_t, and_f, and_b, e_or, or_b, e_tOf, to_b, e_tAnd, tand_b, e_tOr, tor_b, e_tNot, not_b, e_tYes, e_fIf, fif_b, e_nil, e_cons, cons_some, e_tup, tup_some, e_lst, lst_some, e_call, call_some, e_m1, e_m2, e_sSeq, seqs_l, seqs_t, seqs_s, e_for, for_some, e_asg, tg_some, e_gN, e_gT2, e_gT3, e_frz, frz_own, e_retOwn, ch_b, e_lc, co_some, lc_some, wipe_nil, wipe_cons, end_rt, end_nx, pt_none, pt_some, int_some, e_cut, cut_l, cut_t, e_app, e_sRng, pad_0, sl_f, sl_t, sl_nil, add_i, sub_i, lt_i, le_i, gt_i, ge_i, neg_i, not_d, len_l, len_t, ix_l, ix_t, max2_i, min2_i, tup_l, tup_t, lst_l, lst_t, rev_l, rev_t, bool_i, bool_b, int_b, isn_n, e_chain, e_par, e_m3, List.length_cons, List.length_nil, List.replicate, List.cons_append, List.nil_append, Option.map_some, Nat.reduceAdd, Nat.reduceSub, Nat.zero_add, if_true, if_false, ite_true, ite_false, Bool.false_eq_true, reduceCtorEq, decide_true, decide_false, not_true, not_false_iff, Bool.not_true, Bool.not_false, Bool.and_true, Bool.true_and, Bool.and_false, Bool.false_and, Bool.or_true, Bool.true_or, Bool.or_false, Bool.false_or]⟩
  have e2 : (c.ss.filter fun s => !(rowsS c loads (notS [])).flatten.contains s.1).map (fun s => PyData.str s.1) = stL ((nms c).filter (seqS c loads (notS []))) := by
    unfold stL nms
    rw [List.filter_map, List.map_map]
    have : (c.ss.filter fun s => !(rowsS c loads (notS [])).flatten.contains s.1) = c.ss.filter ((seqS c loads (notS [])) ∘ fun x => x.1) := List.filter_congr fun s hs => by
      rw [rows_flat (List.mem_map.mpr ⟨s, hs, rfl⟩)]
      simp [notS]
    rw [this]
    rfl
  rw [e2] at hc2
  have hf2 : fitsL (stL ((nms c).filter (seqS c loads (notS [])))).length = true := fitsL_small (by
    rw [stL_len]
    have := List.length_filter_le (seqS c loads (notS [])) (nms c)
    have := nms_len h
    omega)
  have hs := sort_strs (xs := (nms c).filter (seqS c loads (notS []))) (by
    have := List.length_filter_le (seqS c loads (notS [])) (nms c)
    have := nms_len h
    omega)
  rw [← ssort_filter] at hs
  have hbr := broken_rows_ok h hl hn
  simp only [e_run, e_seq, seq_nx, seq_rt, seq_none, e_skip, e_set, e_own, nxK_some, vK_some, oK_some, e_ret, rtK_some, e_if, ifK_some, e_fVar, e_bVar, va_val, vb_val, vb_own, vb_bor, at_0, at_S, set_0, set_S, e_K, e_f1, o1_some, e_f2, o2_some, e_and, and_t, and_f, and_b, e_or, or_b, e_tOf, to_b, e_tAnd, tand_b, e_tOr, tor_b, e_tNot, not_b, e_tYes, e_fIf, fif_b, e_nil, e_cons, cons_some, e_tup, tup_some, e_lst, lst_some, e_call, call_some, e_m1, e_m2, e_sSeq, seqs_l, seqs_t, seqs_s, e_for, for_some, e_asg, tg_some, e_gN, e_gT2, e_gT3, e_frz, frz_own, e_retOwn, ch_b, e_lc, co_some, lc_some, wipe_nil, wipe_cons, end_rt, end_nx, pt_none, pt_some, int_some, e_cut, cut_l, cut_t, e_app, e_sRng, pad_0, sl_f, sl_t, sl_nil, add_i, sub_i, lt_i, le_i, gt_i, ge_i, neg_i, not_d, len_l, len_t, ix_l, ix_t, max2_i, min2_i, tup_l, tup_t, lst_l, lst_t, rev_l, rev_t, bool_i, bool_b, int_b, isn_n, e_chain, e_par, e_m3, List.length_cons, List.length_nil, List.replicate, List.cons_append, List.nil_append, Option.map_some, Nat.reduceAdd, Nat.reduceSub, Nat.zero_add, if_true, if_false, ite_true, ite_false, Bool.false_eq_true, reduceCtorEq, decide_true, decide_false, not_true, not_false_iff, Bool.not_true, Bool.not_false, Bool.and_true, Bool.true_and, Bool.and_false, Bool.false_and, Bool.or_true, Bool.true_or, Bool.or_false, Bool.false_or, Mi.m_behind, Mi.G_behind, hbr, e_lc2, co2_some, hc, hf, strands_fit h, hc2, hf2, hs]
  rfl
/-- the first load behind which none is left -/
def ffall (c : Cd) : Nat → Lds → Lot → Option Nat
  | _, [], _ => none
  | k, e :: r, S => if left (fin e.1 e.2 c 9 S) c = 0 then some k else ffall c (k + 1) r (fin e.1 e.2 c 9 S)
theorem left_split {c : Cd} (e : Int × Int) (S : Lot) : (brkN c e S).length + left (fin e.1 e.2 c 9 S) c = left S c := by
  unfold brkN left
  rw [(ssort_perm _).length_eq]
  have h : ∀ x, fin e.1 e.2 c 9 S x = true → S x = true := fun x => fin_sub 9 S x
  generalize fin e.1 e.2 c 9 S = T at h
  generalize nms c = l
  induction l with
  | nil => rfl
  | cons a l ih =>
    simp only [List.filter_cons]
    have ha := h a
    cases hs : S a with
    | false =>
      cases ht : T a with
      | false => simpa using ih
      | true => have := ha ht; rw [hs] at this; cases this
    | true =>
      cases ht : T a with
      | false => simp; omega
      | true => simp; omega
def optD : Option Nat → D
  | none => .none
  | some k => .int k
theorem fall_loop {c : Cd} {s1 : Slot} (h : Fit c) : ∀ (l : Lds) (k : Nat) (S : Lot) (s3 s4 : Slot), ∃ o, forL (gT2 3 4) Mi.B_first_fall_1 (numFrom k ((rowsS c l S).map tupS)) [.val c.d, s1, .val (.int (left S c)), s3, s4] = some o ∧ endK false (seqK (some o) (gRet (fK .none))) = some (optD (ffall c k l S))
  | [], k, S, s3, s4 => ⟨_, rfl, rfl⟩
  | e :: r, k, S, s3, s4 => by
    have hsp := left_split (c := c) e S
    have hlen : lenD (tupS (brkN c e S)) = some (.int (brkN c e S).length) := by show some (PyData.int _) = _; rw [stL_len]
    have e1 : ((left S c : Nat) : Int) - ((brkN c e S).length : Int) = ((left (fin e.1 e.2 c 9 S) c : Nat) : Int) := by omega
    have step : ∀ o, Mi.B_first_fall_1 [.val c.d, s1, .val (.int (left S c)), .val (.int (k : Nat)), .val (tupS (brkN c e S))] = some o →
        forL (gT2 3 4) Mi.B_first_fall_1 (numFrom k ((rowsS c (e :: r) S).map tupS)) [.val c.d, s1, .val (.int (left S c)), s3, s4] = match o with
          | .nx ρ => forL (gT2 3 4) Mi.B_first_fall_1 (numFrom (k + 1) ((rowsS c r (fin e.1 e.2 c 9 S)).map tupS)) ρ
          | .rt r => some (.rt r) := fun o ho => by
      show (Option.bind (some _) fun ρ1 => (Mi.B_first_fall_1 ρ1).bind _) = _
      simp only [Option.bind_some, set_0, set_S, ho] <;> (cases o <;> rfl)
    by_cases h0 : left (fin e.1 e.2 c 9 S) c = 0
    · refine ⟨_, step (.rt (.int (k : Nat))) (by
        have : (((left (fin e.1 e.2 c 9 S) c : Nat) : Int) == 0) = true := by simp [h0]
        simp only [e_run, e_seq, seq_nx, seq_rt, seq_none, e_skip, e_set, e_own, nxK_some, vK_some, oK_some, e_ret, rtK_some, e_if, ifK_some, e_fVar, e_bVar, va_val, vb_val, vb_own, vb_bor, at_0, at_S, set_0, set_S, e_K, e_f1, o1_some, e_f2, o2_some, e_and, and_t, and_f, and_b, e_or, or_b, e_tOf, to_b, e_tAnd, tand_b, e_tOr, tor_b, e_tNot, not_b, e_tYes, e_fIf, fif_b, e_nil, e_cons, cons_some, e_tup, tup_some, e_lst, lst_some, e_call, call_some, e_m1, e_m2, e_sSeq, seqs_l, seqs_t, seqs_s, e_for, for_some, e_asg, tg_some, e_gN, e_gT2, e_gT3, e_frz, frz_own, e_retOwn, ch_b, e_lc, co_some, lc_some, wipe_nil, wipe_cons, end_rt, end_nx, pt_none, pt_some, int_some, e_cut, cut_l, cut_t, e_app, e_sRng, pad_0, sl_f, sl_t, sl_nil, add_i, sub_i, lt_i, le_i, gt_i, ge_i, neg_i, not_d, len_l, len_t, ix_l, ix_t, max2_i, min2_i, tup_l, tup_t, lst_l, lst_t, rev_l, rev_t, bool_i, bool_b, int_b, isn_n, e_chain, e_par, e_m3, List.length_cons, List.length_nil, List.replicate, List.cons_append, List.nil_append, Option.map_some, Nat.reduceAdd, Nat.reduceSub, Nat.zero_add, if_true, if_false, ite_true, ite_false, Bool.false_eq_true, reduceCtorEq, decide_true, decide_false, not_true, not_false_iff, Bool.not_true, Bool.not_false, Bool.and_true, Bool.true_and, Bool.and_false, Bool.false_and, Bool.or_true, Bool.true_or, Bool.or_false, Bool.false_or, Mi.B_first_fall_1, hlen, e1, eq_i, this]), ?_⟩
      simp only [ffall, h0, if_true, optD]
      rfl
    · obtain ⟨o, o1, o2⟩ := fall_loop (s1 := s1) h r (k + 1) (fin e.1 e.2 c 9 S) (.val (.int (k : Nat))) (.val (tupS (brkN c e S)))
      refine ⟨o, ?_, ?_⟩
      · rw [step (.nx [.val c.d, s1, .val (.int (left (fin e.1 e.2 c 9 S) c)), .val (.int (k : Nat)), .val (tupS (brkN c e S))]) (by
          have : (((left (fin e.1 e.2 c 9 S) c : Nat) : Int) == 0) = false := by simp [h0]
          simp only [e_run, e_seq, seq_nx, seq_rt, seq_none, e_skip, e_set, e_own, nxK_some, vK_some, oK_some, e_ret, rtK_some, e_if, ifK_some, e_fVar, e_bVar, va_val, vb_val, vb_own, vb_bor, at_0, at_S, set_0, set_S, e_K, e_f1, o1_some, e_f2, o2_some, e_and, and_t, and_f, and_b, e_or, or_b, e_tOf, to_b, e_tAnd, tand_b, e_tOr, tor_b, e_tNot, not_b, e_tYes, e_fIf, fif_b, e_nil, e_cons, cons_some, e_tup, tup_some, e_lst, lst_some, e_call, call_some, e_m1, e_m2, e_sSeq, seqs_l, seqs_t, seqs_s, e_for, for_some, e_asg, tg_some, e_gN, e_gT2, e_gT3, e_frz, frz_own, e_retOwn, ch_b, e_lc, co_some, lc_some, wipe_nil, wipe_cons, end_rt, end_nx, pt_none, pt_some, int_some, e_cut, cut_l, cut_t, e_app, e_sRng, pad_0, sl_f, sl_t, sl_nil, add_i, sub_i, lt_i, le_i, gt_i, ge_i, neg_i, not_d, len_l, len_t, ix_l, ix_t, max2_i, min2_i, tup_l, tup_t, lst_l, lst_t, rev_l, rev_t, bool_i, bool_b, int_b, isn_n, e_chain, e_par, e_m3, List.length_cons, List.length_nil, List.replicate, List.cons_append, List.nil_append, Option.map_some, Nat.reduceAdd, Nat.reduceSub, Nat.zero_add, if_true, if_false, ite_true, ite_false, Bool.false_eq_true, reduceCtorEq, decide_true, decide_false, not_true, not_false_iff, Bool.not_true, Bool.not_false, Bool.and_true, Bool.true_and, Bool.and_false, Bool.false_and, Bool.or_true, Bool.true_or, Bool.or_false, Bool.false_or, Mi.B_first_fall_1, hlen, e1, eq_i, this])]
        exact o1
      · simp only [ffall, h0, if_false]
        exact o2
theorem left_all {c : Cd} : left (notS []) c = c.ss.length := by
  unfold left
  rw [List.filter_eq_self.mpr fun x _ => by simp [notS]]
  simp [nms]
theorem first_fall_ok {c : Cd} {loads : Lds} (h : Fit c) (hl : LdOk loads) (hn : loads.length ≤ 1000) :
    Mi.m_first_fall [c.d, .tuple (ldL loads)] = some (optD (ffall c 0 loads (notS []))) := by
  obtain ⟨o, h1, h2⟩ := fall_loop (s1 := .val (.tuple (ldL loads))) h loads 0 (notS []) .no .no
  rw [left_all] at h1
  have hbr := broken_rows_ok h hl hn
  simp only [e_run, e_seq, seq_nx, seq_rt, seq_none, e_skip, e_set, e_own, nxK_some, vK_some, oK_some, e_ret, rtK_some, e_if, ifK_some, e_fVar, e_bVar, va_val, vb_val, vb_own, vb_bor, at_0, at_S, set_0, set_S, e_K, e_f1, o1_some, e_f2, o2_some, e_and, and_t, and_f, and_b, e_or, or_b, e_tOf, to_b, e_tAnd, tand_b, e_tOr, tor_b, e_tNot, not_b, e_tYes, e_fIf, fif_b, e_nil, e_cons, cons_some, e_tup, tup_some, e_lst, lst_some, e_call, call_some, e_m1, e_m2, e_sSeq, seqs_l, seqs_t, seqs_s, e_for, for_some, e_asg, tg_some, e_gN, e_gT2, e_gT3, e_frz, frz_own, e_retOwn, ch_b, e_lc, co_some, lc_some, wipe_nil, wipe_cons, end_rt, end_nx, pt_none, pt_some, int_some, e_cut, cut_l, cut_t, e_app, e_sRng, pad_0, sl_f, sl_t, sl_nil, add_i, sub_i, lt_i, le_i, gt_i, ge_i, neg_i, not_d, len_l, len_t, ix_l, ix_t, max2_i, min2_i, tup_l, tup_t, lst_l, lst_t, rev_l, rev_t, bool_i, bool_b, int_b, isn_n, e_chain, e_par, e_m3, List.length_cons, List.length_nil, List.replicate, List.cons_append, List.nil_append, Option.map_some, Nat.reduceAdd, Nat.reduceSub, Nat.zero_add, if_true, if_false, ite_true, ite_false, Bool.false_eq_true, reduceCtorEq, decide_true, decide_false, not_true, not_false_iff, Bool.not_true, Bool.not_false, Bool.and_true, Bool.true_and, Bool.and_false, Bool.false_and, Bool.or_true, Bool.true_or, Bool.or_false, Bool.false_or, Mi.m_first_fall, Mi.G_first_fall, strands_fit h, List.length_map, hbr, e_enum, en_l, h1]
  exact h2
end Fact
set_option maxRecDepth 100000
/-! Drawn loads, strengths, the law's lots behind loads. -/
namespace Fact
open PySem Pu
theorem rngL_mem : ∀ {m : Nat} {lo : Int} {d : D}, d ∈ rngL m lo → ∃ k : Nat, k < m ∧ d = .int (lo + k)
  | 0, _, _, h => by cases h
  | m + 1, lo, d, h => by
    rcases List.mem_cons.mp h with rfl | h
    · exact ⟨0, by omega, by simp⟩
    · obtain ⟨k, h1, rfl⟩ := rngL_mem h
      exact ⟨k + 1, by omega, by simp; omega⟩
theorem rngL_len : ∀ (m : Nat) (lo : Int), (rngL m lo).length = m
  | 0, _ => rfl
  | m + 1, lo => by simp [rngL, rngL_len m]
theorem low_list : ∀ {ys : List D}, (∀ y ∈ ys, ∃ p q, y = lowD p q ∧ 0 ≤ p ∧ 0 < q ∧ q < 10000) → ∃ loads : Lds, LdOk loads ∧ ys = ldL loads
  | [], _ => ⟨[], fun _ h => (by cases h), rfl⟩
  | y :: ys, h => by
    obtain ⟨p, q, rfl, a, b, c⟩ := h y List.mem_cons_self
    obtain ⟨l, h1, rfl⟩ := low_list (ys := ys) fun y m => h y (List.mem_cons_of_mem _ m)
    refine ⟨(p, q) :: l, fun e he => ?_, rfl⟩
    rcases List.mem_cons.mp he with rfl | he
    · exact ⟨a, b, c⟩
    · exact h1 e he
theorem ldL_len (l : Lds) : (ldL l).length = l.length := by simp [ldL]
theorem loads_ok (dr : List Int) (many : Nat) (most : Int) (hl : 4 * many ≤ dr.length) (hm0 : many ≤ 1000) (hm : 0 ≤ most) (hm2 : most < 1000000000) :
    ∃ loads : Lds, LdOk loads ∧ loads.length = many ∧ Mi.m_law_loads [nums dr, .int many, .int most] = some (.tuple (ldL loads)) := by
  obtain ⟨ys, h1, h2, h3⟩ := compL_ex (tg := gN 3) (e := fCall Mi.m_law_load [fCut (bVar 0) (some (f2 mulD (fK (.int 4)) (bVar 3))) (some (f2 addD (f2 mulD (fK (.int 4)) (bVar 3)) (fK (.int 4)))), fVar 2])
    (ρ := [.val (nums dr), .val (.int many), .val (.int most), .no]) (P := fun _ y => ∃ p q, y = lowD p q ∧ 0 ≤ p ∧ 0 < q ∧ q < 10000) (ds := rngL many 0) fun d hd => by
      obtain ⟨k, hk, rfl⟩ := rngL_mem hd
      obtain ⟨p, q, e, a, b, c, _⟩ := load_ok ((dr.drop (4 * k)).take 4) most (by simp; omega) hm hm2
      have hc : cutL (dr.map PyData.int) (some (4 * (0 + (k : Int)))) (some (4 * (0 + (k : Int)) + 4)) = ((dr.drop (4 * k)).take 4).map .int := by
        rw [show (4 : Int) * (0 + (k : Int)) = ((4 * k : Nat) : Int) by omega, show ((4 * k : Nat) : Int) + 4 = ((4 * k + 4 : Nat) : Int) by omega, cut_mid _ _ _ (by omega) (by rw [List.length_map]; omega), List.map_take, List.map_drop]
        congr 1
        omega
      have hmu : mulD (.int 4) (.int (0 + (k : Int))) = some (.int (4 * (0 + (k : Int)))) := mul_ok (Or.inl (by omega))
      refine ⟨_, _, rfl, ?_, p, q, rfl, a, b, by omega⟩
      simp only [nums] at e ⊢
      simp only [e_run, e_seq, seq_nx, seq_rt, seq_none, e_skip, e_set, e_own, nxK_some, vK_some, oK_some, e_ret, rtK_some, e_if, ifK_some, e_fVar, e_bVar, va_val, vb_val, vb_own, vb_bor, at_0, at_S, set_0, set_S, e_K, e_f1, o1_some, e_f2, o2_some, e_and, and_t, and_f, and_b, e_or, or_b, e_tOf, to_b, e_tAnd, tand_b, e_tOr, tor_b, e_tNot, not_b, e_tYes, e_fIf, fif_b, e_nil, e_cons, cons_some, e_tup, tup_some, e_lst, lst_some, e_call, call_some, e_m1, e_m2, e_sSeq, seqs_l, seqs_t, seqs_s, e_for, for_some, e_asg, tg_some, e_gN, e_gT2, e_gT3, e_frz, frz_own, e_retOwn, ch_b, e_lc, co_some, lc_some, wipe_nil, wipe_cons, end_rt, end_nx, pt_none, pt_some, int_some, e_cut, cut_l, cut_t, e_app, e_sRng, pad_0, sl_f, sl_t, sl_nil, add_i, sub_i, lt_i, le_i, gt_i, ge_i, neg_i, not_d, len_l, len_t, ix_l, ix_t, max2_i, min2_i, tup_l, tup_t, lst_l, lst_t, rev_l, rev_t, bool_i, bool_b, int_b, isn_n, e_chain, e_par, e_m3, List.length_cons, List.length_nil, List.replicate, List.cons_append, List.nil_append, Option.map_some, Nat.reduceAdd, Nat.reduceSub, Nat.zero_add, if_true, if_false, ite_true, ite_false, Bool.false_eq_true, reduceCtorEq, decide_true, decide_false, not_true, not_false_iff, Bool.not_true, Bool.not_false, Bool.and_true, Bool.true_and, Bool.and_false, Bool.false_and, Bool.or_true, Bool.true_or, Bool.or_false, Bool.false_or, hmu, hc, e]
  obtain ⟨loads, g1, rfl⟩ := low_list fun y hy => (h3 y hy).elim fun _ h => h.2
  rw [ldL_len, rngL_len] at h2
  refine ⟨loads, g1, h2, ?_⟩
  have hf : fitsL (ldL loads).length = true := fitsL_small (by rw [ldL_len]; omega)
  have sm := rng_some (j := (many : Int)) (by omega) (by omega)
  simp only [e_run, e_seq, seq_nx, seq_rt, seq_none, e_skip, e_set, e_own, nxK_some, vK_some, oK_some, e_ret, rtK_some, e_if, ifK_some, e_fVar, e_bVar, va_val, vb_val, vb_own, vb_bor, at_0, at_S, set_0, set_S, e_K, e_f1, o1_some, e_f2, o2_some, e_and, and_t, and_f, and_b, e_or, or_b, e_tOf, to_b, e_tAnd, tand_b, e_tOr, tor_b, e_tNot, not_b, e_tYes, e_fIf, fif_b, e_nil, e_cons, cons_some, e_tup, tup_some, e_lst, lst_some, e_call, call_some, e_m1, e_m2, e_sSeq, seqs_l, seqs_t, seqs_s, e_for, for_some, e_asg, tg_some, e_gN, e_gT2, e_gT3, e_frz, frz_own, e_retOwn, ch_b, e_lc, co_some, lc_some, wipe_nil, wipe_cons, end_rt, end_nx, pt_none, pt_some, int_some, e_cut, cut_l, cut_t, e_app, e_sRng, pad_0, sl_f, sl_t, sl_nil, add_i, sub_i, lt_i, le_i, gt_i, ge_i, neg_i, not_d, len_l, len_t, ix_l, ix_t, max2_i, min2_i, tup_l, tup_t, lst_l, lst_t, rev_l, rev_t, bool_i, bool_b, int_b, isn_n, e_chain, e_par, e_m3, List.length_cons, List.length_nil, List.replicate, List.cons_append, List.nil_append, Option.map_some, Nat.reduceAdd, Nat.reduceSub, Nat.zero_add, if_true, if_false, ite_true, ite_false, Bool.false_eq_true, reduceCtorEq, decide_true, decide_false, not_true, not_false_iff, Bool.not_true, Bool.not_false, Bool.and_true, Bool.true_and, Bool.and_false, Bool.false_and, Bool.or_true, Bool.true_or, Bool.or_false, Bool.false_or, Mi.m_law_loads, Mi.G_law_loads, sm, Int.toNat_natCast, h1, hf]
/-! ### strengths -/
theorem best_bound {ns : List Int} {B : Int} (hne : ns ≠ []) (h : ∀ n ∈ ns, 1 ≤ n ∧ n ≤ B) (hl : ns.length ≤ 8) : 1 ≤ best ns ∧ best ns ≤ 8 * B := by
  have hb := best_some hne
  have hd : ∀ n ∈ desc ns, 1 ≤ n ∧ n ≤ B := fun n hn => h n ((desc_perm ns).mem_iff.mp hn)
  have hdl : (desc ns).length ≤ 8 := by rw [desc_len]; exact hl
  constructor
  · match e : desc ns, hd, hb with
    | [], _, hb => cases hb
    | a :: r, hd, hb =>
      have := (bestL_le (p := 1) (q := 1) (by decide) hb).mpr ⟨0, a, rfl, by have := (hd a List.mem_cons_self).1; simp; omega⟩
      omega
  · obtain ⟨j, n, h1, h2⟩ := (bestL_le (p := best ns) (q := 1) (by decide) hb).mp (by omega)
    obtain ⟨hj, hn⟩ := List.getElem?_eq_some_iff.mp h1
    obtain ⟨n1, n2⟩ := hd n (hn ▸ List.getElem_mem hj)
    have : ((0 + j + 1 : Nat) : Int) * n ≤ 8 * B := Int.mul_le_mul (by omega) n2 (by omega) (by decide)
    omega
theorem gr_bound {B : Int} : ∀ (n : Nat) (c : Cd), c.dp < n → Fit c → (∀ s ∈ c.ss, 1 ≤ s.2 ∧ s.2 ≤ B) → 1 ≤ gr c ∧ gr c ≤ 8 ^ c.dp * B
  | 0, c, h, _, _ => absurd h (Nat.not_lt_zero _)
  | n + 1, .one x k, _, _, hs => by
    have := hs (x, k) (by simp [Cd.ss])
    simp only [gr, Cd.dp]
    simpa using this
  | n + 1, .tie ps, hd, h, hs => by
    obtain ⟨h2, _⟩ := tie_ok h.ok
    have hB : 0 ≤ B := by
      have := Cd.ss_one (.tie ps) h.ok
      obtain ⟨s, hs2⟩ := List.exists_mem_of_length_pos (show 0 < (Cd.tie ps).ss.length by omega)
      have := hs s hs2
      omega
    have hg : ∀ m ∈ grs ps, 1 ≤ m ∧ m ≤ 8 ^ Cd.dps ps * B := fun m hm => by
      rw [grs_map] at hm
      obtain ⟨a, ha, rfl⟩ := List.mem_map.mp hm
      obtain ⟨i1, i2⟩ := gr_bound n a (dp_part ha hd) (part_fit h ha) fun s hs2 => hs s (by simp only [Cd.ss]; rw [sss_flat]; exact List.mem_flatMap.mpr ⟨a, ha, hs2⟩)
      have p8 : (8 : Int) ^ a.dp ≤ 8 ^ Cd.dps ps := by exact_mod_cast Nat.pow_le_pow_right (show 0 < 8 by decide) (Cd.le_dps ha)
      exact ⟨i1, Int.le_trans i2 (Int.mul_le_mul_of_nonneg_right p8 hB)⟩
    have hne : grs ps ≠ [] := by intro e; have := congrArg List.length e; rw [grs_len] at this; simp at this; rw [this] at h2; simp at h2
    obtain ⟨b1, b2⟩ := best_bound hne hg (by rw [grs_len]; exact fit_len h)
    simp only [gr, Cd.dp]
    refine ⟨b1, ?_⟩
    rw [Int.pow_succ, Int.mul_comm (8 ^ Cd.dps ps) 8, Int.mul_assoc]
    exact b2
theorem gr_good {c : Cd} (h : Fit c) (g : Good 8 c.ss) : 1 ≤ gr c ∧ gr c ≤ 207618048 := by
  obtain ⟨a, b⟩ := gr_bound 24 c (by have := fit_dp h; omega) h g.str
  refine ⟨a, Int.le_trans b ?_⟩
  have : (8 : Int) ^ c.dp ≤ 8 ^ 7 := by exact_mod_cast Nat.pow_le_pow_right (show 0 < 8 by decide) (fit_dp h)
  have h7 : (8 : Int) ^ 7 = 2097152 := by decide
  omega
theorem strength_ok {c : Cd} (h : Fit c) : Mi.m_strength [c.d] = some (.int (gr c)) := by
  simp only [e_run, e_seq, seq_nx, seq_rt, seq_none, e_skip, e_set, e_own, nxK_some, vK_some, oK_some, e_ret, rtK_some, e_if, ifK_some, e_fVar, e_bVar, va_val, vb_val, vb_own, vb_bor, at_0, at_S, set_0, set_S, e_K, e_f1, o1_some, e_f2, o2_some, e_and, and_t, and_f, and_b, e_or, or_b, e_tOf, to_b, e_tAnd, tand_b, e_tOr, tor_b, e_tNot, not_b, e_tYes, e_fIf, fif_b, e_nil, e_cons, cons_some, e_tup, tup_some, e_lst, lst_some, e_call, call_some, e_m1, e_m2, e_sSeq, seqs_l, seqs_t, seqs_s, e_for, for_some, e_asg, tg_some, e_gN, e_gT2, e_gT3, e_frz, frz_own, e_retOwn, ch_b, e_lc, co_some, lc_some, wipe_nil, wipe_cons, end_rt, end_nx, pt_none, pt_some, int_some, e_cut, cut_l, cut_t, e_app, e_sRng, pad_0, sl_f, sl_t, sl_nil, add_i, sub_i, lt_i, le_i, gt_i, ge_i, neg_i, not_d, len_l, len_t, ix_l, ix_t, max2_i, min2_i, tup_l, tup_t, lst_l, lst_t, rev_l, rev_t, bool_i, bool_b, int_b, isn_n, e_chain, e_par, e_m3, List.length_cons, List.length_nil, List.replicate, List.cons_append, List.nil_append, Option.map_some, Nat.reduceAdd, Nat.reduceSub, Nat.zero_add, if_true, if_false, ite_true, ite_false, Bool.false_eq_true, reduceCtorEq, decide_true, decide_false, not_true, not_false_iff, Bool.not_true, Bool.not_false, Bool.and_true, Bool.true_and, Bool.and_false, Bool.false_and, Bool.or_true, Bool.true_or, Bool.or_false, Bool.false_or, Mi.m_strength, Mi.G_strength, greatest_fit h]
/-! ### lots behind loads -/
def lotsS (c : Cd) : Lds → Lot → List (List Str)
  | [], _ => []
  | e :: r, S => lotN c (fin e.1 e.2 c 9 S) :: lotsS c r (fin e.1 e.2 c 9 S)
theorem lotsS_app {c : Cd} {e : Int × Int} : ∀ (l : Lds) (S : Lot), lotsS c (l ++ [e]) S = lotsS c l S ++ [lotN c (seqS c (l ++ [e]) S)]
  | [], _ => rfl
  | a :: r, S => by simp only [List.cons_append, lotsS, lotsS_app r, seqS]
theorem lotsS_len {c : Cd} : ∀ (l : Lds) (S : Lot), (lotsS c l S).length = l.length
  | [], _ => rfl
  | a :: r, S => by simp [lotsS, lotsS_len r]
theorem lotN_in {c : Cd} {S : Lot} : ∀ x ∈ nms c, (lotN c S).contains x = S x := fun x hx => by
  rw [Bool.eq_iff_iff, List.contains_iff_mem]
  unfold lotN
  rw [List.mem_filter, ssort_mem]
  exact ⟨fun h => h.2, fun h => ⟨hx, h⟩⟩
theorem lotN_len {c : Cd} (h : Fit c) (S : Lot) : (lotN c S).length ≤ 8 := by
  unfold lotN
  have := List.length_filter_le S (ssort (nms c))
  rw [(ssort_perm _).length_eq] at this
  have := nms_len h
  omega
theorem lotN_sorted (c : Cd) (S : Lot) : ssort (lotN c S) = lotN c S := by
  unfold lotN
  rw [ssort_filter, ssort_idem]
theorem lotN_congr {c : Cd} {S T : Lot} (h : ∀ x ∈ nms c, S x = T x) : lotN c S = lotN c T := List.filter_congr fun x hx => h x (ssort_mem.mp hx)
theorem lotN_sub {c : Cd} {S T : Lot} (h : ∀ x, T x = true → S x = true) : (lotN c S).filter T = lotN c T := by
  unfold lotN
  rw [List.filter_filter]
  refine List.filter_congr fun x _ => ?_
  cases e : T x with
  | false => rfl
  | true => rw [h x e]; rfl
theorem held_lot {c : Cd} {p q : Int} (h : Fit c) (hp : 0 ≤ p) (hq : 0 < q) (hb : q < 10000) (S : Lot) : Mi.m_law_held [c.d, lowD p q, .list (stL (lotN c S))] = some (.tuple (stL (lotN c (fin p q c 9 S)))) := by
  rw [law_held_ok h hp hq hb (by have := lotN_len h S; omega), lotN_sorted, ← lotN_sub (S := S) (T := fin p q c 9 S) fun x => fin_sub 9 S x]
  congr 3
  refine List.filter_congr fun x hx => ?_
  have hx2 : x ∈ nms c := ssort_mem.mp (List.mem_filter.mp hx).1
  exact fin_congr 9 (fun y hy => lotN_in y hy) x hx2
theorem lotN_all (c : Cd) : lotN c (notS []) = ssort (nms c) := List.filter_eq_self.mpr fun x _ => by simp [notS]
theorem law_behind_ok {c : Cd} {loads : Lds} (h : Fit c) (hl : LdOk loads) (hn : loads.length ≤ 1000) :
    Mi.m_law_behind [c.d, .tuple (ldL loads)] = some (.list ((lotsS c loads (notS [])).map tupS)) := by
  obtain ⟨ρ', h1, s4, rfl⟩ := forL_map (enc := fun e : Int × Int => lowD e.1 e.2) (tg := gN 4) (body := Mi.B_law_behind_1 Mi.m_law_held) (full := loads) (xs := loads) (pre := [])
    (ρ := [.val c.d, .val (.tuple (ldL loads)), .val (.list (stL (lotN c (notS [])))), .own (.list []), .no])
    (I := fun pre ρ => ∃ s4, ρ = [.val c.d, .val (.tuple (ldL loads)), .val (.list (stL (lotN c (seqS c pre (notS []))))), .own (.list ((lotsS c pre (notS [])).map tupS)), s4]) rfl
    ⟨_, rfl⟩ fun pre e post ρ he ⟨s4, hρ⟩ => by
      subst hρ
      obtain ⟨hp, hq, hb⟩ := hl e (by rw [he]; simp)
      have hpl : pre.length < 1000 := by
        have := congrArg List.length he
        rw [List.length_append, List.length_cons] at this
        omega
      have hh := held_lot h hp hq hb (seqS c pre (notS []))
      have hap : ((lotsS c pre (notS [])).map tupS).length < sizeLine := by rw [List.length_map, lotsS_len]; exact Nat.lt_trans hpl (by decide)
      have l1 : lstD (tupS (lotN c (fin e.1 e.2 c 9 (seqS c pre (notS []))))) = some (.list (stL (lotN c (fin e.1 e.2 c 9 (seqS c pre (notS [])))))) := rfl
      have t1 : (PyData.tuple (stL (lotN c (fin e.1 e.2 c 9 (seqS c pre (notS [])))))) = tupS (lotN c (fin e.1 e.2 c 9 (seqS c pre (notS [])))) := rfl
      refine ⟨_, _, rfl, ?_, .val (lowD e.1 e.2), rfl⟩
      rw [lotsS_app, seqS_app, List.map_append, List.map_cons, List.map_nil]
      simp only [e_run, e_seq, seq_nx, seq_rt, seq_none, e_skip, e_set, e_own, nxK_some, vK_some, oK_some, e_ret, rtK_some, e_if, ifK_some, e_fVar, e_bVar, va_val, vb_val, vb_own, vb_bor, at_0, at_S, set_0, set_S, e_K, e_f1, o1_some, e_f2, o2_some, e_and, and_t, and_f, and_b, e_or, or_b, e_tOf, to_b, e_tAnd, tand_b, e_tOr, tor_b, e_tNot, not_b, e_tYes, e_fIf, fif_b, e_nil, e_cons, cons_some, e_tup, tup_some, e_lst, lst_some, e_call, call_some, e_m1, e_m2, e_sSeq, seqs_l, seqs_t, seqs_s, e_for, for_some, e_asg, tg_some, e_gN, e_gT2, e_gT3, e_frz, frz_own, e_retOwn, ch_b, e_lc, co_some, lc_some, wipe_nil, wipe_cons, end_rt, end_nx, pt_none, pt_some, int_some, e_cut, cut_l, cut_t, e_app, e_sRng, pad_0, sl_f, sl_t, sl_nil, add_i, sub_i, lt_i, le_i, gt_i, ge_i, neg_i, not_d, len_l, len_t, ix_l, ix_t, max2_i, min2_i, tup_l, tup_t, lst_l, lst_t, rev_l, rev_t, bool_i, bool_b, int_b, isn_n, e_chain, e_par, e_m3, List.length_cons, List.length_nil, List.replicate, List.cons_append, List.nil_append, Option.map_some, Nat.reduceAdd, Nat.reduceSub, Nat.zero_add, if_true, if_false, ite_true, ite_false, Bool.false_eq_true, reduceCtorEq, decide_true, decide_false, not_true, not_false_iff, Bool.not_true, Bool.not_false, Bool.and_true, Bool.true_and, Bool.and_false, Bool.false_and, Bool.or_true, Bool.true_or, Bool.or_false, Bool.false_or, Mi.B_law_behind_1, hh, l1, t1, app_some hap]
  have e7 : (loads.map fun e => lowD e.1 e.2) = ldL loads := rfl
  rw [e7, lotN_all] at h1
  simp only [e_run, e_seq, seq_nx, seq_rt, seq_none, e_skip, e_set, e_own, nxK_some, vK_some, oK_some, e_ret, rtK_some, e_if, ifK_some, e_fVar, e_bVar, va_val, vb_val, vb_own, vb_bor, at_0, at_S, set_0, set_S, e_K, e_f1, o1_some, e_f2, o2_some, e_and, and_t, and_f, and_b, e_or, or_b, e_tOf, to_b, e_tAnd, tand_b, e_tOr, tor_b, e_tNot, not_b, e_tYes, e_fIf, fif_b, e_nil, e_cons, cons_some, e_tup, tup_some, e_lst, lst_some, e_call, call_some, e_m1, e_m2, e_sSeq, seqs_l, seqs_t, seqs_s, e_for, for_some, e_asg, tg_some, e_gN, e_gT2, e_gT3, e_frz, frz_own, e_retOwn, ch_b, e_lc, co_some, lc_some, wipe_nil, wipe_cons, end_rt, end_nx, pt_none, pt_some, int_some, e_cut, cut_l, cut_t, e_app, e_sRng, pad_0, sl_f, sl_t, sl_nil, add_i, sub_i, lt_i, le_i, gt_i, ge_i, neg_i, not_d, len_l, len_t, ix_l, ix_t, max2_i, min2_i, tup_l, tup_t, lst_l, lst_t, rev_l, rev_t, bool_i, bool_b, int_b, isn_n, e_chain, e_par, e_m3, List.length_cons, List.length_nil, List.replicate, List.cons_append, List.nil_append, Option.map_some, Nat.reduceAdd, Nat.reduceSub, Nat.zero_add, if_true, if_false, ite_true, ite_false, Bool.false_eq_true, reduceCtorEq, decide_true, decide_false, not_true, not_false_iff, Bool.not_true, Bool.not_false, Bool.and_true, Bool.true_and, Bool.and_false, Bool.false_and, Bool.or_true, Bool.true_or, Bool.or_false, Bool.false_or, Mi.m_law_behind, Mi.G_law_behind, names_ok h, e_par, h1]
end Fact
set_option maxRecDepth 100000
/-! Loads by their order: the greatest alone. -/
namespace Fact
open PySem Pu
/-- p / q no more than p' / q' -/
def leR (a b : Int × Int) : Prop := a.1 * b.2 ≤ b.1 * a.2
theorem leR_refl (a : Int × Int) : leR a a := Int.le_refl _
theorem leR_total (a b : Int × Int) : leR a b ∨ leR b a := Int.le_total _ _
theorem leR_trans {a b c : Int × Int} (ha : 0 < a.2) (hb : 0 < b.2) (hc : 0 < c.2) (h1 : leR a b) (h2 : leR b c) : leR a c := by
  unfold leR at *
  have e1 := Int.mul_le_mul_of_nonneg_right h1 (Int.le_of_lt hc)
  have e2 := Int.mul_le_mul_of_nonneg_right h2 (Int.le_of_lt ha)
  refine Int.le_of_mul_le_mul_right (a := b.2) ?_ hb
  have x1 : a.1 * c.2 * b.2 = a.1 * b.2 * c.2 := by rw [Int.mul_assoc, Int.mul_comm c.2, ← Int.mul_assoc]
  have x2 : b.1 * a.2 * c.2 = b.1 * c.2 * a.2 := by rw [Int.mul_assoc, Int.mul_comm a.2, ← Int.mul_assoc]
  have x3 : c.1 * b.2 * a.2 = c.1 * a.2 * b.2 := by rw [Int.mul_assoc, Int.mul_comm b.2, ← Int.mul_assoc]
  rw [x1, ← x3]
  rw [x2] at e1
  exact Int.le_trans e1 e2
/-- what a greater load leaves whole, a smaller one does -/
theorem le_load {a b : Int × Int} {x : Int} (ha : 0 < a.2) (hb : 0 < b.2) (h : leR a b) (g : b.1 ≤ x * b.2) : a.1 ≤ x * a.2 := by
  unfold leR at h
  refine Int.le_of_mul_le_mul_right (a := b.2) ?_ hb
  have e1 := Int.mul_le_mul_of_nonneg_right g (Int.le_of_lt ha)
  have x1 : x * b.2 * a.2 = x * a.2 * b.2 := by rw [Int.mul_assoc, Int.mul_comm b.2, ← Int.mul_assoc]
  rw [x1] at e1
  exact Int.le_trans h e1
theorem stable_less {a b : Int × Int} {S : Lot} {c : Cd} (ha : 0 < a.2) (hb : 0 < b.2) (h : leR a b) (st : Stable b.1 b.2 S c) : Stable a.1 a.2 S c := fun t ht => by
  have g := st t ht
  have x1 : ∀ q : Int, t.2.1 * (q * (t.2.2 : Int)) = t.2.1 * t.2.2 * q := fun q => by rw [Int.mul_comm q, ← Int.mul_assoc]
  rw [x1] at g ⊢
  exact le_load ha hb h g
theorem hold_stable {e : Int × Int} {c : Cd} (h : Fit c) (hp : 0 ≤ e.1) (hq : 0 < e.2) : Stable e.1 e.2 (holdS e.1 e.2 c) c := (cnt_hold c e.1 e.2 h.ok hq hp h.nd).2
theorem stable_hold {e : Int × Int} {S : Lot} {c : Cd} (h : Fit c) (hp : 0 ≤ e.1) (hq : 0 < e.2) (st : Stable e.1 e.2 S c) : ∀ x ∈ nms c, S x = true → holdS e.1 e.2 c x = true := fun x hx hs => by
  obtain ⟨s, h1, rfl⟩ := List.mem_map.mp hx
  obtain ⟨k, hk⟩ := cnt_has h1 hs
  obtain ⟨q', hq'⟩ := stable_in c e.1 e.2 S h.ok hq hp st _ hk
  exact holdS_iff.mpr ⟨q', hq'⟩
/-- a greater load: none holds that didn't -/
theorem hold_less {a b : Int × Int} {c : Cd} (h : Fit c) (ha0 : 0 ≤ a.1) (ha : 0 < a.2) (hb0 : 0 ≤ b.1) (hb : 0 < b.2) (hl : leR a b) : ∀ x ∈ nms c, holdS b.1 b.2 c x = true → holdS a.1 a.2 c x = true :=
  stable_hold h ha0 ha (stable_less ha hb hl (hold_stable h hb0 hb))
theorem hold_same {a b : Int × Int} {c : Cd} (h : Fit c) (ha0 : 0 ≤ a.1) (ha : 0 < a.2) (hb0 : 0 ≤ b.1) (hb : 0 < b.2) (h1 : leR a b) (h2 : leR b a) : ∀ x ∈ nms c, holdS a.1 a.2 c x = holdS b.1 b.2 c x := fun x hx => by
  rw [Bool.eq_iff_iff]
  exact ⟨hold_less h hb0 hb ha0 ha h2 x hx, hold_less h ha0 ha hb0 hb h1 x hx⟩
theorem seq_great {c : Cd} (h : Fit c) {T : Lot} : ∀ (l : Lds) (S : Lot), LdOk l → (∀ e ∈ l, Stable e.1 e.2 T c) → (∀ x ∈ nms c, T x = true → S x = true) → ∀ x ∈ nms c, T x = true → seqS c l S x = true
  | [], S, _, _, hS => hS
  | e :: r, S, lo, st, hS => by
    obtain ⟨hp, hq, hb⟩ := lo e List.mem_cons_self
    exact seq_great h r _ (fun d hd => lo d (List.mem_cons_of_mem _ hd)) (fun d hd => st d (List.mem_cons_of_mem _ hd)) (fin_great hq hp h.nd (st e List.mem_cons_self) 9 S hS)
/-- a lot that is left is stable under each load so far -/
theorem stable_sub {e : Int × Int} {S T : Lot} {c : Cd} (hq : 0 < e.2) (hp : 0 ≤ e.1) (st : Stable e.1 e.2 S c) (hT : ∀ x ∈ nms c, T x = true → S x = true) (h : Fit c) : ∀ x ∈ nms c, T x = true → holdS e.1 e.2 c x = true := fun x hx hs => stable_hold h hp hq st x hx (hT x hx hs)
theorem seq_in {c : Cd} (h : Fit c) : ∀ (l : Lds) (S : Lot), LdOk l → ∀ e ∈ l, ∀ x ∈ nms c, seqS c l S x = true → holdS e.1 e.2 c x = true
  | [], _, _, e, he, _, _, _ => by cases he
  | d :: r, S, lo, e, he, x, hx, hs => by
    obtain ⟨hp, hq, hb⟩ := lo d List.mem_cons_self
    rcases List.mem_cons.mp he with rfl | he
    · have st := overN_nil.mp (fin_stable (p := e.1) (q := e.2) 9 S (Nat.le_trans (left_le S h) (by decide)))
      exact stable_hold h hp hq st x hx (seqS_sub r _ hs)
    · exact seq_in h r _ (fun d hd => lo d (List.mem_cons_of_mem _ hd)) e he x hx hs
theorem seq_hold {c : Cd} {l : Lds} {m : Int × Int} (h : Fit c) (lo : LdOk l) (m0 : 0 ≤ m.1) (m1 : 0 < m.2) (up : ∀ e ∈ l, leR e m) (has : ∃ e ∈ l, leR m e) : ∀ x ∈ nms c, seqS c l (notS []) x = holdS m.1 m.2 c x := fun x hx => by
  rw [Bool.eq_iff_iff]
  constructor
  · intro hs
    obtain ⟨e, he, hle⟩ := has
    obtain ⟨hp, hq, _⟩ := lo e he
    exact hold_less h m0 m1 hp hq hle x hx (seq_in h l _ lo e he x hx hs)
  · intro hs
    refine seq_great h (T := holdS m.1 m.2 c) l _ lo (fun e he => stable_less (lo e he).2.1 m1 (up e he) (hold_stable h m0 m1)) (fun y _ _ => by simp [notS]) x hx hs
/-- there is a greatest one -/
theorem max_ex : ∀ {l : Lds}, l ≠ [] → LdOk l → ∃ m ∈ l, ∀ e ∈ l, leR e m
  | [a], _, _ => ⟨a, List.mem_cons_self, fun e he => by rw [List.mem_singleton.mp he]; exact leR_refl a⟩
  | a :: b :: r, _, lo => by
    obtain ⟨m, h1, h2⟩ := max_ex (l := b :: r) (by simp) fun d hd => lo d (List.mem_cons_of_mem _ hd)
    have qa := (lo a List.mem_cons_self).2.1
    have qm := (lo m (List.mem_cons_of_mem _ h1)).2.1
    rcases leR_total a m with h | h
    · refine ⟨m, List.mem_cons_of_mem _ h1, fun e he => ?_⟩
      rcases List.mem_cons.mp he with rfl | he
      · exact h
      · exact h2 e he
    · refine ⟨a, List.mem_cons_self, fun e he => ?_⟩
      rcases List.mem_cons.mp he with rfl | he
      · exact leR_refl e
      · exact leR_trans (lo e (List.mem_cons_of_mem _ he)).2.1 qm qa (h2 e he) h
/-! ### the first fall -/
theorem left_zero {c : Cd} {S : Lot} : left S c = 0 ↔ ∀ x ∈ nms c, S x = false := by
  unfold left
  rw [List.length_eq_zero_iff, List.filter_eq_nil_iff]
  exact ⟨fun h x hx => by simpa using h x hx, fun h x hx => by simp [h x hx]⟩
theorem left_mono {c : Cd} {S T : Lot} (h : ∀ x ∈ nms c, S x = true → T x = true) (h0 : left T c = 0) : left S c = 0 := by
  rw [left_zero] at h0 ⊢
  intro x hx
  cases e : S x with
  | false => rfl
  | true => have := h x hx e; rw [h0 x hx] at this; cases this
theorem ffall_some {c : Cd} : ∀ {l : Lds} {k : Nat} {S : Lot} {j : Nat}, ffall c k l S = some j → ∃ i e, j = k + i ∧ l[i]? = some e ∧ left (fin e.1 e.2 c 9 (seqS c (l.take i) S)) c = 0 ∧ (i = 0 ∨ left (seqS c (l.take i) S) c ≠ 0)
  | [], _, _, _, h => by cases h
  | e :: r, k, S, j, h => by
    simp only [ffall] at h
    by_cases h0 : left (fin e.1 e.2 c 9 S) c = 0
    · rw [if_pos h0] at h
      cases h
      exact ⟨0, e, rfl, rfl, h0, Or.inl rfl⟩
    · rw [if_neg h0] at h
      obtain ⟨i, e', h1, h2, h3, h4⟩ := ffall_some h
      refine ⟨i + 1, e', by omega, by simpa using h2, h3, Or.inr ?_⟩
      simp only [List.take_succ_cons, seqS]
      rcases h4 with h4 | h4
      · subst h4
        simpa [seqS] using h0
      · exact h4
theorem ffall_none {c : Cd} : ∀ {l : Lds} {k : Nat} {S : Lot}, l ≠ [] → (ffall c k l S = none ↔ left (seqS c l S) c ≠ 0)
  | [], _, _, h => absurd rfl h
  | e :: r, k, S, _ => by
    simp only [ffall, seqS]
    by_cases h0 : left (fin e.1 e.2 c 9 S) c = 0
    · rw [if_pos h0]
      have := left_mono (c := c) (S := seqS c r (fin e.1 e.2 c 9 S)) (T := fin e.1 e.2 c 9 S) (fun x _ => seqS_sub r _) h0
      simp [this]
    · rw [if_neg h0]
      cases r with
      | nil => simp [ffall, seqS, h0]
      | cons d r => exact ffall_none (by simp)
theorem nms_ne {c : Cd} (h : Fit c) : nms c ≠ [] := by
  have := Cd.ss_one c h.ok
  intro e
  have h2 := congrArg List.length e
  unfold nms at h2
  rw [List.length_map] at h2
  simp at h2
  rw [h2] at this
  simp at this
/-- at the first fall the load is greater than the strength -/
theorem fall_above {c : Cd} {l : Lds} {j : Nat} (h : Fit c) (lo : LdOk l) (hf : ffall c 0 l (notS []) = some j) : ∃ e, l[j]? = some e ∧ ¬ e.1 ≤ gr c * e.2 ∧ left (seqS c (l.take j) (notS [])) c ≠ 0 := by
  obtain ⟨i, e, h1, h2, h3, h4⟩ := ffall_some hf
  rw [Nat.zero_add] at h1
  subst h1
  have he : e ∈ l := List.mem_of_getElem? h2
  obtain ⟨hp, hq, hb⟩ := lo e he
  have hne : left (seqS c (l.take j) (notS [])) c ≠ 0 := by
    rcases h4 with h4 | h4
    · subst h4
      intro g
      rw [left_zero] at g
      obtain ⟨x, r, hx⟩ := List.exists_cons_of_ne_nil (nms_ne h)
      have := g x (by rw [hx]; exact List.mem_cons_self)
      simp [seqS, notS] at this
    · exact h4
  refine ⟨e, h2, fun hle => ?_, hne⟩
  have lot : LdOk (l.take j) := fun d hd => lo d (List.mem_of_mem_take hd)
  -- some hold by e alone
  have hs := (shs_ne c e.1 e.2 h.ok hq hp).mpr hle
  obtain ⟨r, rs, hr⟩ := List.exists_cons_of_ne_nil hs
  have hrx : holdS e.1 e.2 c r.1 = true := holdS_iff.mpr ⟨r.2, by rw [hr]; exact List.mem_cons_self⟩
  have hrn : r.1 ∈ nms c := shs_names c e.1 e.2 r (by rw [hr]; exact List.mem_cons_self)
  have z := left_zero.mp h3
  by_cases hall : ∀ d ∈ l.take j, leR d e
  · have g1 : ∀ x ∈ nms c, holdS e.1 e.2 c x = true → seqS c (l.take j) (notS []) x = true := seq_great h _ _ lot (fun d hd => stable_less (lot d hd).2.1 hq (hall d hd) (hold_stable h hp hq)) (fun y _ _ => by simp [notS])
    have g2 := fin_great hq hp h.nd (hold_stable h hp hq) 9 _ g1 r.1 hrn hrx
    rw [z r.1 hrn] at g2
    cases g2
  · have hpre : l.take j ≠ [] := fun e0 => hall fun d hd => by rw [e0] at hd; cases hd
    obtain ⟨m, m1, m2⟩ := max_ex hpre lot
    obtain ⟨mp, mq, _⟩ := lot m m1
    have hem : leR e m := by
      rcases leR_total e m with g | g
      · exact g
      · exact absurd (fun d hd => leR_trans (lot d hd).2.1 mq hq (m2 d hd) g) hall
    have hsq := seq_hold h lot mp mq m2 ⟨m, m1, leR_refl m⟩
    have st : Stable e.1 e.2 (seqS c (l.take j) (notS [])) c := by
      refine stable_less hq mq hem ?_
      intro t ht
      rw [cnt_congr c _ _ hsq] at ht
      exact hold_stable h mp mq t ht
    have g2 : ∀ x ∈ nms c, seqS c (l.take j) (notS []) x = true → fin e.1 e.2 c 9 (seqS c (l.take j) (notS [])) x = true := fin_great hq hp h.nd st 9 _ fun _ _ g => g
    exact hne (left_mono g2 h3)
/-! ### the greatest, by the law -/
theorem cross_low {a b : Int × Int} (ha0 : 0 ≤ a.1) (ha : 0 < a.2) (hb0 : 0 ≤ b.1) (hb : 0 < b.2) : ∃ p0 q0 p1 q1, lowD a.1 a.2 = ldD p0 q0 ∧ lowD b.1 b.2 = ldD p1 q1 ∧ q0 ≤ a.2 ∧ q1 ≤ b.2 ∧ 0 < q0 ∧ 0 < q1 ∧ (p1 * q0 < p0 * q1 ↔ ¬ leR a b) := by
  obtain ⟨p0, q0, e1, x1, x2, x3, x4⟩ := low_form ha0 ha
  obtain ⟨p1, q1, e2, y1, y2, y3, y4⟩ := low_form hb0 hb
  refine ⟨p0, q0, p1, q1, e1, e2, x3, y3, x2, y2, ?_⟩
  unfold leR
  rw [Int.not_le]
  -- both sides times a.2 * b.2, or times q0 * q1
  have l1 : p1 * q0 * (a.2 * b.2) = b.1 * a.2 * (q0 * q1) := by
    calc p1 * q0 * (a.2 * b.2) = (p1 * b.2) * (q0 * a.2) := by
          rw [Int.mul_assoc, Int.mul_assoc]; congr 1; rw [Int.mul_comm a.2 b.2, ← Int.mul_assoc, ← Int.mul_assoc, Int.mul_comm q0 b.2]
      _ = (b.1 * q1) * (q0 * a.2) := by rw [y4]
      _ = b.1 * a.2 * (q0 * q1) := by rw [Int.mul_assoc, Int.mul_assoc]; congr 1; rw [Int.mul_comm q0 a.2, Int.mul_comm q1, Int.mul_assoc]
  have l2 : p0 * q1 * (a.2 * b.2) = a.1 * b.2 * (q0 * q1) := by
    calc p0 * q1 * (a.2 * b.2) = (p0 * a.2) * (q1 * b.2) := by
          rw [Int.mul_assoc, Int.mul_assoc]; congr 1; rw [← Int.mul_assoc, ← Int.mul_assoc, Int.mul_comm q1 a.2]
      _ = (a.1 * q0) * (q1 * b.2) := by rw [x4]
      _ = a.1 * b.2 * (q0 * q1) := by rw [Int.mul_assoc, Int.mul_assoc]; congr 1; rw [Int.mul_comm q1 b.2, ← Int.mul_assoc, Int.mul_comm q0 b.2, Int.mul_assoc]
  have pos1 : 0 < a.2 * b.2 := Int.mul_pos ha hb
  have pos2 : 0 < q0 * q1 := Int.mul_pos x2 y2
  constructor
  · intro g
    have := Int.mul_lt_mul_of_pos_right g pos1
    rw [l1, l2] at this
    exact Int.lt_of_mul_lt_mul_right this (Int.le_of_lt pos2)
  · intro g
    have := Int.mul_lt_mul_of_pos_right g pos2
    rw [← l1, ← l2] at this
    exact Int.lt_of_mul_lt_mul_right this (Int.le_of_lt pos1)
theorem greatest_loads {loads : Lds} (lo : LdOk loads) : ∃ m : Int × Int, 0 ≤ m.1 ∧ 0 < m.2 ∧ m.2 < 10000 ∧ (∀ e ∈ loads, leR e m) ∧ (m ∈ loads ∨ m = (0, 1)) ∧ Mi.m_law_greatest [.tuple (ldL loads)] = some (lowD m.1 m.2) := by
  obtain ⟨ρ', h1, m, s2, k1, k2, k3, k4, k5, rfl⟩ := forL_map (enc := fun e : Int × Int => lowD e.1 e.2) (tg := gN 2) (body := Mi.B_law_greatest_1) (full := loads) (xs := loads) (pre := [])
    (ρ := [.val (.tuple (ldL loads)), .val (.tuple [.int 0, .int 1]), .no])
    (I := fun pre ρ => ∃ (m : Int × Int) (s2 : Slot), 0 ≤ m.1 ∧ 0 < m.2 ∧ m.2 < 10000 ∧ (∀ e ∈ pre, leR e m) ∧ (m ∈ pre ∨ m = (0, 1)) ∧ ρ = [.val (.tuple (ldL loads)), .val (lowD m.1 m.2), s2]) rfl
    ⟨(0, 1), _, by decide, by decide, by decide, (fun _ h => by cases h), Or.inr rfl, by
      have : lowD 0 1 = .tuple [.int 0, .int 1] := by
        show ldD (0 / ((Int.gcd 0 1 : Nat) : Int)) (1 / ((Int.gcd 0 1 : Nat) : Int)) = _
        rw [show Int.gcd 0 1 = 1 by decide]
        rfl
      rw [this]⟩ fun pre e post ρ he ⟨m, s2, k1, k2, k3, k4, k5, hρ⟩ => by
      subst hρ
      obtain ⟨hp, hq, hb⟩ := lo e (by rw [he]; simp)
      obtain ⟨p0, q0, p1, q1, e1, e2, x3, y3, x2, y2, hx⟩ := cross_low hp hq k1 k2
      have m1 : mulD (.int p0) (.int q1) = some (.int (p0 * q1)) := mul_ok (Or.inr (by omega))
      have m2 : mulD (.int p1) (.int q0) = some (.int (p1 * q0)) := mul_ok (Or.inr (by omega))
      by_cases hle : leR e m
      · have hn : ¬ p1 * q0 < p0 * q1 := fun g => hx.mp g hle
        refine ⟨_, _, rfl, ?_, m, .val (lowD e.1 e.2), k1, k2, k3, fun d hd => ?_, k5.imp (fun g => List.mem_append_left _ g) id, rfl⟩
        · rw [e1, e2]
          simp only [ldD]
          simp only [e_run, e_seq, seq_nx, seq_rt, seq_none, e_skip, e_set, e_own, nxK_some, vK_some, oK_some, e_ret, rtK_some, e_if, ifK_some, e_fVar, e_bVar, va_val, vb_val, vb_own, vb_bor, at_0, at_S, set_0, set_S, e_K, e_f1, o1_some, e_f2, o2_some, e_and, and_t, and_f, and_b, e_or, or_b, e_tOf, to_b, e_tAnd, tand_b, e_tOr, tor_b, e_tNot, not_b, e_tYes, e_fIf, fif_b, e_nil, e_cons, cons_some, e_tup, tup_some, e_lst, lst_some, e_call, call_some, e_m1, e_m2, e_sSeq, seqs_l, seqs_t, seqs_s, e_for, for_some, e_asg, tg_some, e_gN, e_gT2, e_gT3, e_frz, frz_own, e_retOwn, ch_b, e_lc, co_some, lc_some, wipe_nil, wipe_cons, end_rt, end_nx, pt_none, pt_some, int_some, e_cut, cut_l, cut_t, e_app, e_sRng, pad_0, sl_f, sl_t, sl_nil, add_i, sub_i, lt_i, le_i, gt_i, ge_i, neg_i, not_d, len_l, len_t, ix_l, ix_t, max2_i, min2_i, tup_l, tup_t, lst_l, lst_t, rev_l, rev_t, bool_i, bool_b, int_b, isn_n, e_chain, e_par, e_m3, List.length_cons, List.length_nil, List.replicate, List.cons_append, List.nil_append, Option.map_some, Nat.reduceAdd, Nat.reduceSub, Nat.zero_add, if_true, if_false, ite_true, ite_false, Bool.false_eq_true, reduceCtorEq, decide_true, decide_false, not_true, not_false_iff, Bool.not_true, Bool.not_false, Bool.and_true, Bool.true_and, Bool.and_false, Bool.false_and, Bool.or_true, Bool.true_or, Bool.or_false, Bool.false_or, Mi.B_law_greatest_1, at_two0, at_two1, m1, m2, hn]
        · rcases List.mem_append.mp hd with hd | hd
          · exact k4 d hd
          · rw [List.mem_singleton.mp hd]; exact hle
      · have hn : p1 * q0 < p0 * q1 := hx.mpr hle
        have hme : leR m e := (leR_total m e).resolve_right hle
        refine ⟨_, _, rfl, ?_, e, .val (lowD e.1 e.2), hp, hq, hb, fun d hd => ?_, Or.inl (by simp), rfl⟩
        · rw [e1, e2]
          simp only [ldD]
          simp only [e_run, e_seq, seq_nx, seq_rt, seq_none, e_skip, e_set, e_own, nxK_some, vK_some, oK_some, e_ret, rtK_some, e_if, ifK_some, e_fVar, e_bVar, va_val, vb_val, vb_own, vb_bor, at_0, at_S, set_0, set_S, e_K, e_f1, o1_some, e_f2, o2_some, e_and, and_t, and_f, and_b, e_or, or_b, e_tOf, to_b, e_tAnd, tand_b, e_tOr, tor_b, e_tNot, not_b, e_tYes, e_fIf, fif_b, e_nil, e_cons, cons_some, e_tup, tup_some, e_lst, lst_some, e_call, call_some, e_m1, e_m2, e_sSeq, seqs_l, seqs_t, seqs_s, e_for, for_some, e_asg, tg_some, e_gN, e_gT2, e_gT3, e_frz, frz_own, e_retOwn, ch_b, e_lc, co_some, lc_some, wipe_nil, wipe_cons, end_rt, end_nx, pt_none, pt_some, int_some, e_cut, cut_l, cut_t, e_app, e_sRng, pad_0, sl_f, sl_t, sl_nil, add_i, sub_i, lt_i, le_i, gt_i, ge_i, neg_i, not_d, len_l, len_t, ix_l, ix_t, max2_i, min2_i, tup_l, tup_t, lst_l, lst_t, rev_l, rev_t, bool_i, bool_b, int_b, isn_n, e_chain, e_par, e_m3, List.length_cons, List.length_nil, List.replicate, List.cons_append, List.nil_append, Option.map_some, Nat.reduceAdd, Nat.reduceSub, Nat.zero_add, if_true, if_false, ite_true, ite_false, Bool.false_eq_true, reduceCtorEq, decide_true, decide_false, not_true, not_false_iff, Bool.not_true, Bool.not_false, Bool.and_true, Bool.true_and, Bool.and_false, Bool.false_and, Bool.or_true, Bool.true_or, Bool.or_false, Bool.false_or, Mi.B_law_greatest_1, at_two0, at_two1, m1, m2, hn]
        · rcases List.mem_append.mp hd with hd | hd
          · exact leR_trans (lo d (by rw [he]; exact List.mem_append_left _ hd)).2.1 k2 hq (k4 d hd) hme
          · rw [List.mem_singleton.mp hd]; exact leR_refl e
  have e7 : (loads.map fun e => lowD e.1 e.2) = ldL loads := rfl
  rw [e7] at h1
  refine ⟨m, k1, k2, k3, k4, k5, ?_⟩
  simp only [e_run, e_seq, seq_nx, seq_rt, seq_none, e_skip, e_set, e_own, nxK_some, vK_some, oK_some, e_ret, rtK_some, e_if, ifK_some, e_fVar, e_bVar, va_val, vb_val, vb_own, vb_bor, at_0, at_S, set_0, set_S, e_K, e_f1, o1_some, e_f2, o2_some, e_and, and_t, and_f, and_b, e_or, or_b, e_tOf, to_b, e_tAnd, tand_b, e_tOr, tor_b, e_tNot, not_b, e_tYes, e_fIf, fif_b, e_nil, e_cons, cons_some, e_tup, tup_some, e_lst, lst_some, e_call, call_some, e_m1, e_m2, e_sSeq, seqs_l, seqs_t, seqs_s, e_for, for_some, e_asg, tg_some, e_gN, e_gT2, e_gT3, e_frz, frz_own, e_retOwn, ch_b, e_lc, co_some, lc_some, wipe_nil, wipe_cons, end_rt, end_nx, pt_none, pt_some, int_some, e_cut, cut_l, cut_t, e_app, e_sRng, pad_0, sl_f, sl_t, sl_nil, add_i, sub_i, lt_i, le_i, gt_i, ge_i, neg_i, not_d, len_l, len_t, ix_l, ix_t, max2_i, min2_i, tup_l, tup_t, lst_l, lst_t, rev_l, rev_t, bool_i, bool_b, int_b, isn_n, e_chain, e_par, e_m3, List.length_cons, List.length_nil, List.replicate, List.cons_append, List.nil_append, Option.map_some, Nat.reduceAdd, Nat.reduceSub, Nat.zero_add, if_true, if_false, ite_true, ite_false, Bool.false_eq_true, reduceCtorEq, decide_true, decide_false, not_true, not_false_iff, Bool.not_true, Bool.not_false, Bool.and_true, Bool.true_and, Bool.and_false, Bool.false_and, Bool.or_true, Bool.true_or, Bool.or_false, Bool.false_or, Mi.m_law_greatest, Mi.G_law_greatest, h1]
end Fact
set_option maxRecDepth 100000
/-! Cords with other strengths; sums. -/
namespace Fact
open PySem Pu
mutual
/-- other strengths, by names -/
def Cd.re (f : Str → Int → Int) : Cd → Cd
  | .one x n => .one x (f x n)
  | .tie ps => .tie (Cd.res f ps)
def Cd.res (f : Str → Int → Int) : List Cd → List Cd
  | [] => []
  | c :: cs => c.re f :: Cd.res f cs
end
theorem Cd.res_map (f : Str → Int → Int) : ∀ cs : List Cd, Cd.res f cs = cs.map (Cd.re f)
  | [] => rfl
  | c :: cs => by simp [Cd.res, Cd.res_map f cs]
mutual
theorem re_ss (f : Str → Int → Int) : ∀ c : Cd, (c.re f).ss = c.ss.map fun s => (s.1, f s.1 s.2)
  | .one x n => rfl
  | .tie ps => by simp only [Cd.re, Cd.ss, res_sss f ps]
theorem res_sss (f : Str → Int → Int) : ∀ cs : List Cd, Cd.sss (Cd.res f cs) = (Cd.sss cs).map fun s => (s.1, f s.1 s.2)
  | [] => rfl
  | c :: cs => by simp only [Cd.res, Cd.sss, re_ss f c, res_sss f cs, List.map_append]
end
mutual
theorem re_okk (f : Str → Int → Int) : ∀ c : Cd, c.ok → (c.re f).ok
  | .one x n, _ => trivial
  | .tie ps, h => by
    obtain ⟨h1, h2⟩ := (by simpa only [Cd.ok] using h : 2 ≤ ps.length ∧ Cd.oks ps)
    simp only [Cd.re, Cd.ok]
    exact ⟨by rw [Cd.res_map, List.length_map]; exact h1, res_okk f ps h2⟩
theorem res_okk (f : Str → Int → Int) : ∀ cs : List Cd, Cd.oks cs → Cd.oks (Cd.res f cs)
  | [], _ => trivial
  | c :: cs, h => by
    obtain ⟨h1, h2⟩ := (by simpa only [Cd.oks] using h : c.ok ∧ Cd.oks cs)
    simp only [Cd.res, Cd.oks]
    exact ⟨re_okk f c h1, res_okk f cs h2⟩
end
theorem re_nms (f : Str → Int → Int) (c : Cd) : nms (c.re f) = nms c := by
  unfold nms
  rw [re_ss, List.map_map]
  rfl
theorem Fit.re {c : Cd} (h : Fit c) (f : Str → Int → Int) : Fit (c.re f) := ⟨re_okk f c h.ok, by rw [re_nms]; exact h.nd, by rw [re_ss, List.length_map]; exact h.len⟩
theorem re_alive (f : Str → Int → Int) (S : Lot) (c : Cd) : alive S (c.re f) = alive S c := by
  unfold alive
  rw [re_ss, List.any_map]
  rfl
theorem re_live (f : Str → Int → Int) (S : Lot) (ps : List Cd) : live S (Cd.res f ps) = live S ps := by
  unfold live
  rw [Cd.res_map, List.filter_map, List.length_map]
  congr 2
  funext c
  exact re_alive f S c
mutual
theorem re_cnt (f : Str → Int → Int) (S : Lot) : ∀ c : Cd, cnt S (c.re f) = (cnt S c).map fun t => (t.1, f t.1 t.2.1, t.2.2)
  | .one x n => by
    simp only [Cd.re, cnt]
    by_cases h : S x <;> simp [h]
  | .tie ps => by
    simp only [Cd.re, cnt, re_live, res_cnt f S ps, scale, List.map_map]
    rfl
theorem res_cnt (f : Str → Int → Int) (S : Lot) : ∀ cs : List Cd, cnts S (Cd.res f cs) = (cnts S cs).map fun t => (t.1, f t.1 t.2.1, t.2.2)
  | [] => rfl
  | c :: cs => by simp only [Cd.res, cnts, re_cnt f S c, res_cnt f S cs, List.map_append]
end
/-- of greater strengths the same lots stay whole -/
theorem re_stable {f g : Str → Int → Int} {p q : Int} {S : Lot} {c : Cd} (hq : 0 ≤ q) (hfg : ∀ s ∈ c.ss, p ≤ f s.1 s.2 * q → f s.1 s.2 ≤ g s.1 s.2 ∨ p ≤ g s.1 s.2 * q) (hp : 0 ≤ p) (hg0 : ∀ s ∈ c.ss, 0 ≤ g s.1 s.2) (hsmall : ∀ s ∈ c.ss, ¬ p ≤ f s.1 s.2 * q → f s.1 s.2 ≤ g s.1 s.2) (st : Stable p q S (c.re f)) : Stable p q S (c.re g) := fun t ht => by
  rw [re_cnt] at ht
  obtain ⟨u, hu, rfl⟩ := List.mem_map.mp ht
  have h1 := st (u.1, f u.1 u.2.1, u.2.2) (by rw [re_cnt]; exact List.mem_map.mpr ⟨u, hu, rfl⟩)
  have hs := (cnt_in hu).1
  have kp := cnt_pos S c u hu
  simp only at h1 ⊢
  have more : f u.1 u.2.1 ≤ g u.1 u.2.1 → p ≤ g u.1 u.2.1 * (q * (u.2.2 : Int)) := fun h => Int.le_trans h1 (Int.mul_le_mul_of_nonneg_right h (Int.mul_nonneg hq (by omega)))
  by_cases hb : p ≤ f u.1 u.2.1 * q
  · rcases hfg _ hs hb with h | h
    · exact more h
    · have hq2 : q ≤ q * (u.2.2 : Int) := by
        have := Int.mul_le_mul_of_nonneg_left (show (1 : Int) ≤ u.2.2 by omega) hq
        simpa using this
      exact Int.le_trans h (Int.mul_le_mul_of_nonneg_left hq2 (hg0 _ hs))
  · exact more (hsmall _ hs hb)
/-! ### the mirrors -/
theorem tup_of (l : List D) : tupD (.list l) = some (.tuple l) := rfl
def withS (x : Str) (m : Int) : Str → Int → Int := fun y n => if y = x then m else n
theorem weak_ok (x : Str) (m : Int) : ∀ (n : Nat) (c : Cd), Fit c → c.dp < n → Mi.mf_law_weak n [c.d, .str x, .int m] = some (c.re (withS x m)).d
  | 0, c, _, h => absurd h (Nat.not_lt_zero _)
  | n + 1, .one y k, _, _ => by
    have he : eqD (.str y) (.str x) = some (.bool (y == x)) := by unfold eqD; rw [eqB_str]; rfl
    simp only [Cd.d, Cd.re, withS]
    by_cases hy : y = x
    · have : (y == x) = true := by simpa using hy
      rw [this] at he
      rw [if_pos hy]
      simp only [e_run, e_seq, seq_nx, seq_rt, seq_none, e_skip, e_set, e_own, nxK_some, vK_some, oK_some, e_ret, rtK_some, e_if, ifK_some, e_fVar, e_bVar, va_val, vb_val, vb_own, vb_bor, at_0, at_S, set_0, set_S, e_K, e_f1, o1_some, e_f2, o2_some, e_and, and_t, and_f, and_b, e_or, or_b, e_tOf, to_b, e_tAnd, tand_b, e_tOr, tor_b, e_tNot, not_b, e_tYes, e_fIf, fif_b, e_nil, e_cons, cons_some, e_tup, tup_some, e_lst, lst_some, e_call, call_some, e_m1, e_m2, e_sSeq, seqs_l, seqs_t, seqs_s, e_for, for_some, e_asg, tg_some, e_gN, e_gT2, e_gT3, e_frz, frz_own, e_retOwn, ch_b, e_lc, co_some, lc_some, wipe_nil, wipe_cons, end_rt, end_nx, pt_none, pt_some, int_some, e_cut, cut_l, cut_t, e_app, e_sRng, pad_0, sl_f, sl_t, sl_nil, add_i, sub_i, lt_i, le_i, gt_i, ge_i, neg_i, not_d, len_l, len_t, ix_l, ix_t, max2_i, min2_i, tup_l, tup_t, lst_l, lst_t, rev_l, rev_t, bool_i, bool_b, int_b, isn_n, e_chain, e_par, e_m3, List.length_cons, List.length_nil, List.replicate, List.cons_append, List.nil_append, Option.map_some, Nat.reduceAdd, Nat.reduceSub, Nat.zero_add, if_true, if_false, ite_true, ite_false, Bool.false_eq_true, reduceCtorEq, decide_true, decide_false, not_true, not_false_iff, Bool.not_true, Bool.not_false, Bool.and_true, Bool.true_and, Bool.and_false, Bool.false_and, Bool.or_true, Bool.true_or, Bool.or_false, Bool.false_or, Mi.mf_law_weak, Mi.G_law_weak, at_one0, at_one1, inst_s, he]
    · have : (y == x) = false := by simpa using hy
      rw [this] at he
      rw [if_neg hy]
      simp only [e_run, e_seq, seq_nx, seq_rt, seq_none, e_skip, e_set, e_own, nxK_some, vK_some, oK_some, e_ret, rtK_some, e_if, ifK_some, e_fVar, e_bVar, va_val, vb_val, vb_own, vb_bor, at_0, at_S, set_0, set_S, e_K, e_f1, o1_some, e_f2, o2_some, e_and, and_t, and_f, and_b, e_or, or_b, e_tOf, to_b, e_tAnd, tand_b, e_tOr, tor_b, e_tNot, not_b, e_tYes, e_fIf, fif_b, e_nil, e_cons, cons_some, e_tup, tup_some, e_lst, lst_some, e_call, call_some, e_m1, e_m2, e_sSeq, seqs_l, seqs_t, seqs_s, e_for, for_some, e_asg, tg_some, e_gN, e_gT2, e_gT3, e_frz, frz_own, e_retOwn, ch_b, e_lc, co_some, lc_some, wipe_nil, wipe_cons, end_rt, end_nx, pt_none, pt_some, int_some, e_cut, cut_l, cut_t, e_app, e_sRng, pad_0, sl_f, sl_t, sl_nil, add_i, sub_i, lt_i, le_i, gt_i, ge_i, neg_i, not_d, len_l, len_t, ix_l, ix_t, max2_i, min2_i, tup_l, tup_t, lst_l, lst_t, rev_l, rev_t, bool_i, bool_b, int_b, isn_n, e_chain, e_par, e_m3, List.length_cons, List.length_nil, List.replicate, List.cons_append, List.nil_append, Option.map_some, Nat.reduceAdd, Nat.reduceSub, Nat.zero_add, if_true, if_false, ite_true, ite_false, Bool.false_eq_true, reduceCtorEq, decide_true, decide_false, not_true, not_false_iff, Bool.not_true, Bool.not_false, Bool.and_true, Bool.true_and, Bool.and_false, Bool.false_and, Bool.or_true, Bool.true_or, Bool.or_false, Bool.false_or, Mi.mf_law_weak, Mi.G_law_weak, at_one0, at_one1, inst_s, he]
  | n + 1, .tie ps, h, hd => by
    obtain ⟨h2, _⟩ := tie_ok h.ok
    obtain ⟨l, hl⟩ := tie_at h2
    have hc : compL (gN 3) tYes (fCall (Mi.mf_law_weak n) [fVar 3, fVar 1, fVar 2]) [.val (.tuple (Cd.ds ps)), .val (.str x), .val (.int m), .no] (Cd.ds ps) = some (Cd.ds (Cd.res (withS x m) ps)) := by
      rw [Cd.ds_map, Cd.ds_map, Cd.res_map, compL_of (g := fun c => (c.re (withS x m)).d) fun c hc => ⟨_, rfl, by simp only [e_run, e_seq, seq_nx, seq_rt, seq_none, e_skip, e_set, e_own, nxK_some, vK_some, oK_some, e_ret, rtK_some, e_if, ifK_some, e_fVar, e_bVar, va_val, vb_val, vb_own, vb_bor, at_0, at_S, set_0, set_S, e_K, e_f1, o1_some, e_f2, o2_some, e_and, and_t, and_f, and_b, e_or, or_b, e_tOf, to_b, e_tAnd, tand_b, e_tOr, tor_b, e_tNot, not_b, e_tYes, e_fIf, fif_b, e_nil, e_cons, cons_some, e_tup, tup_some, e_lst, lst_some, e_call, call_some, e_m1, e_m2, e_sSeq, seqs_l, seqs_t, seqs_s, e_for, for_some, e_asg, tg_some, e_gN, e_gT2, e_gT3, e_frz, frz_own, e_retOwn, ch_b, e_lc, co_some, lc_some, wipe_nil, wipe_cons, end_rt, end_nx, pt_none, pt_some, int_some, e_cut, cut_l, cut_t, e_app, e_sRng, pad_0, sl_f, sl_t, sl_nil, add_i, sub_i, lt_i, le_i, gt_i, ge_i, neg_i, not_d, len_l, len_t, ix_l, ix_t, max2_i, min2_i, tup_l, tup_t, lst_l, lst_t, rev_l, rev_t, bool_i, bool_b, int_b, isn_n, e_chain, e_par, e_m3, List.length_cons, List.length_nil, List.replicate, List.cons_append, List.nil_append, Option.map_some, Nat.reduceAdd, Nat.reduceSub, Nat.zero_add, if_true, if_false, ite_true, ite_false, Bool.false_eq_true, reduceCtorEq, decide_true, decide_false, not_true, not_false_iff, Bool.not_true, Bool.not_false, Bool.and_true, Bool.true_and, Bool.and_false, Bool.false_and, Bool.or_true, Bool.true_or, Bool.or_false, Bool.false_or, weak_ok x m n c (part_fit h hc) (dp_part hc hd)]⟩, List.map_map]
      rfl
    have hf : fitsL (Cd.ds (Cd.res (withS x m) ps)).length = true := fitsL_small (by rw [Cd.ds_len, Cd.res_map, List.length_map]; have := fit_len h; omega)
    simp only [Cd.d, Cd.re]
    simp only [e_run, e_seq, seq_nx, seq_rt, seq_none, e_skip, e_set, e_own, nxK_some, vK_some, oK_some, e_ret, rtK_some, e_if, ifK_some, e_fVar, e_bVar, va_val, vb_val, vb_own, vb_bor, at_0, at_S, set_0, set_S, e_K, e_f1, o1_some, e_f2, o2_some, e_and, and_t, and_f, and_b, e_or, or_b, e_tOf, to_b, e_tAnd, tand_b, e_tOr, tor_b, e_tNot, not_b, e_tYes, e_fIf, fif_b, e_nil, e_cons, cons_some, e_tup, tup_some, e_lst, lst_some, e_call, call_some, e_m1, e_m2, e_sSeq, seqs_l, seqs_t, seqs_s, e_for, for_some, e_asg, tg_some, e_gN, e_gT2, e_gT3, e_frz, frz_own, e_retOwn, ch_b, e_lc, co_some, lc_some, wipe_nil, wipe_cons, end_rt, end_nx, pt_none, pt_some, int_some, e_cut, cut_l, cut_t, e_app, e_sRng, pad_0, sl_f, sl_t, sl_nil, add_i, sub_i, lt_i, le_i, gt_i, ge_i, neg_i, not_d, len_l, len_t, ix_l, ix_t, max2_i, min2_i, tup_l, tup_t, lst_l, lst_t, rev_l, rev_t, bool_i, bool_b, int_b, isn_n, e_chain, e_par, e_m3, List.length_cons, List.length_nil, List.replicate, List.cons_append, List.nil_append, Option.map_some, Nat.reduceAdd, Nat.reduceSub, Nat.zero_add, if_true, if_false, ite_true, ite_false, Bool.false_eq_true, reduceCtorEq, decide_true, decide_false, not_true, not_false_iff, Bool.not_true, Bool.not_false, Bool.and_true, Bool.true_and, Bool.and_false, Bool.false_and, Bool.or_true, Bool.true_or, Bool.or_false, Bool.false_or, Mi.mf_law_weak, Mi.G_law_weak, hl, inst_t, hc, hf]
theorem weak_fit {c : Cd} (h : Fit c) (x : Str) (m : Int) : Mi.m_law_weak [c.d, .str x, .int m] = some (c.re (withS x m)).d := weak_ok x m 24 c h (by have := fit_dp h; omega)
def getKd : Option D → Option D → Option D → Option D
  | some (.dict kvs), some x, some y => if keyOk x && notT kvs then some ((getK kvs x).getD y) else none
  | _, _, _ => none
theorem e_get {o k v : F1} {ρ : Rho} : fGet o k v ρ = getKd (o ρ) (k ρ) (v ρ) := nr (by
  unfold fGet getKd
  rcases o ρ with _ | (_ | _ | _ | _ | _ | _ | _) <;> rcases k ρ with _ | _ <;> rcases v ρ with _ | _ <;> rfl)
/-- by a dict of strengths -/
def pickS (l : List (Str × Int)) : Str → Int → Int := fun y n => ((l.find? fun e => e.1 == y).map (·.2)).getD n
theorem get_sR (l : List (Str × Int)) (y : Str) (n : Int) : getKd (some (dS (sR l))) (some (.str y)) (some (.int n)) = some (.int (pickS l y n)) := by
  show (if (keyOk (.str y) && notT (kv (sR l))) = true then some ((getK (kv (sR l)) (.str y)).getD (.int n)) else none) = _
  rw [kv_notT, if_pos (show (keyOk (.str y) && true) = true from rfl)]
  unfold getK kv sR pickS
  congr 1
  induction l with
  | nil => rfl
  | cons a r ih =>
    simp only [List.map_cons, List.find?_cons, eqv_ss]
    cases h : (a.1 == y) with
    | true => rfl
    | false => exact ih
theorem changed_ok (l : List (Str × Int)) : ∀ (n : Nat) (c : Cd), Fit c → c.dp < n → Mi.mf_changed n [c.d, dS (sR l)] = some (c.re (pickS l)).d
  | 0, c, _, h => absurd h (Nat.not_lt_zero _)
  | n + 1, .one y k, _, _ => by
    simp only [Cd.d, Cd.re]
    simp only [e_run, e_seq, seq_nx, seq_rt, seq_none, e_skip, e_set, e_own, nxK_some, vK_some, oK_some, e_ret, rtK_some, e_if, ifK_some, e_fVar, e_bVar, va_val, vb_val, vb_own, vb_bor, at_0, at_S, set_0, set_S, e_K, e_f1, o1_some, e_f2, o2_some, e_and, and_t, and_f, and_b, e_or, or_b, e_tOf, to_b, e_tAnd, tand_b, e_tOr, tor_b, e_tNot, not_b, e_tYes, e_fIf, fif_b, e_nil, e_cons, cons_some, e_tup, tup_some, e_lst, lst_some, e_call, call_some, e_m1, e_m2, e_sSeq, seqs_l, seqs_t, seqs_s, e_for, for_some, e_asg, tg_some, e_gN, e_gT2, e_gT3, e_frz, frz_own, e_retOwn, ch_b, e_lc, co_some, lc_some, wipe_nil, wipe_cons, end_rt, end_nx, pt_none, pt_some, int_some, e_cut, cut_l, cut_t, e_app, e_sRng, pad_0, sl_f, sl_t, sl_nil, add_i, sub_i, lt_i, le_i, gt_i, ge_i, neg_i, not_d, len_l, len_t, ix_l, ix_t, max2_i, min2_i, tup_l, tup_t, lst_l, lst_t, rev_l, rev_t, bool_i, bool_b, int_b, isn_n, e_chain, e_par, e_m3, List.length_cons, List.length_nil, List.replicate, List.cons_append, List.nil_append, Option.map_some, Nat.reduceAdd, Nat.reduceSub, Nat.zero_add, if_true, if_false, ite_true, ite_false, Bool.false_eq_true, reduceCtorEq, decide_true, decide_false, not_true, not_false_iff, Bool.not_true, Bool.not_false, Bool.and_true, Bool.true_and, Bool.and_false, Bool.false_and, Bool.or_true, Bool.true_or, Bool.or_false, Bool.false_or, Mi.mf_changed, Mi.G_changed, one_one, at_one0, at_one1, e_get, get_sR]
  | n + 1, .tie ps, h, hd => by
    obtain ⟨h2, _⟩ := tie_ok h.ok
    have hc : compL (gN 2) tYes (fCall (Mi.mf_changed n) [fVar 2, fVar 1]) [.val (.tuple (Cd.ds ps)), .val (dS (sR l)), .no] (Cd.ds ps) = some (Cd.ds (Cd.res (pickS l) ps)) := by
      rw [Cd.ds_map, Cd.ds_map, Cd.res_map, compL_of (g := fun c => (c.re (pickS l)).d) fun c hc => ⟨_, rfl, by simp only [e_run, e_seq, seq_nx, seq_rt, seq_none, e_skip, e_set, e_own, nxK_some, vK_some, oK_some, e_ret, rtK_some, e_if, ifK_some, e_fVar, e_bVar, va_val, vb_val, vb_own, vb_bor, at_0, at_S, set_0, set_S, e_K, e_f1, o1_some, e_f2, o2_some, e_and, and_t, and_f, and_b, e_or, or_b, e_tOf, to_b, e_tAnd, tand_b, e_tOr, tor_b, e_tNot, not_b, e_tYes, e_fIf, fif_b, e_nil, e_cons, cons_some, e_tup, tup_some, e_lst, lst_some, e_call, call_some, e_m1, e_m2, e_sSeq, seqs_l, seqs_t, seqs_s, e_for, for_some, e_asg, tg_some, e_gN, e_gT2, e_gT3, e_frz, frz_own, e_retOwn, ch_b, e_lc, co_some, lc_some, wipe_nil, wipe_cons, end_rt, end_nx, pt_none, pt_some, int_some, e_cut, cut_l, cut_t, e_app, e_sRng, pad_0, sl_f, sl_t, sl_nil, add_i, sub_i, lt_i, le_i, gt_i, ge_i, neg_i, not_d, len_l, len_t, ix_l, ix_t, max2_i, min2_i, tup_l, tup_t, lst_l, lst_t, rev_l, rev_t, bool_i, bool_b, int_b, isn_n, e_chain, e_par, e_m3, List.length_cons, List.length_nil, List.replicate, List.cons_append, List.nil_append, Option.map_some, Nat.reduceAdd, Nat.reduceSub, Nat.zero_add, if_true, if_false, ite_true, ite_false, Bool.false_eq_true, reduceCtorEq, decide_true, decide_false, not_true, not_false_iff, Bool.not_true, Bool.not_false, Bool.and_true, Bool.true_and, Bool.and_false, Bool.false_and, Bool.or_true, Bool.true_or, Bool.or_false, Bool.false_or, changed_ok l n c (part_fit h hc) (dp_part hc hd)]⟩, List.map_map]
      rfl
    have hf : fitsL (Cd.ds (Cd.res (pickS l) ps)).length = true := fitsL_small (by rw [Cd.ds_len, Cd.res_map, List.length_map]; have := fit_len h; omega)
    simp only [Cd.d, Cd.re]
    simp only [e_run, e_seq, seq_nx, seq_rt, seq_none, e_skip, e_set, e_own, nxK_some, vK_some, oK_some, e_ret, rtK_some, e_if, ifK_some, e_fVar, e_bVar, va_val, vb_val, vb_own, vb_bor, at_0, at_S, set_0, set_S, e_K, e_f1, o1_some, e_f2, o2_some, e_and, and_t, and_f, and_b, e_or, or_b, e_tOf, to_b, e_tAnd, tand_b, e_tOr, tor_b, e_tNot, not_b, e_tYes, e_fIf, fif_b, e_nil, e_cons, cons_some, e_tup, tup_some, e_lst, lst_some, e_call, call_some, e_m1, e_m2, e_sSeq, seqs_l, seqs_t, seqs_s, e_for, for_some, e_asg, tg_some, e_gN, e_gT2, e_gT3, e_frz, frz_own, e_retOwn, ch_b, e_lc, co_some, lc_some, wipe_nil, wipe_cons, end_rt, end_nx, pt_none, pt_some, int_some, e_cut, cut_l, cut_t, e_app, e_sRng, pad_0, sl_f, sl_t, sl_nil, add_i, sub_i, lt_i, le_i, gt_i, ge_i, neg_i, not_d, len_l, len_t, ix_l, ix_t, max2_i, min2_i, tup_l, tup_t, lst_l, lst_t, rev_l, rev_t, bool_i, bool_b, int_b, isn_n, e_chain, e_par, e_m3, List.length_cons, List.length_nil, List.replicate, List.cons_append, List.nil_append, Option.map_some, Nat.reduceAdd, Nat.reduceSub, Nat.zero_add, if_true, if_false, ite_true, ite_false, Bool.false_eq_true, reduceCtorEq, decide_true, decide_false, not_true, not_false_iff, Bool.not_true, Bool.not_false, Bool.and_true, Bool.true_and, Bool.and_false, Bool.false_and, Bool.or_true, Bool.true_or, Bool.or_false, Bool.false_or, Mi.mf_changed, Mi.G_changed, one_tie h2, hc, hf]
theorem changed_fit {c : Cd} (h : Fit c) (l : List (Str × Int)) : Mi.m_changed [c.d, dS (sR l)] = some (c.re (pickS l)).d := changed_ok l 24 c h (by have := fit_dp h; omega)
theorem pick_one (x : Str) (m : Int) : pickS [(x, m)] = withS x m := by
  funext y n
  unfold pickS withS
  by_cases h : y = x
  · subst h; simp
  · have : ¬ x = y := fun e => h e.symm
    simp [h, this]
theorem times_ok (b : Int) (hb : 0 ≤ b ∧ b < 1000000) : ∀ (n : Nat) (c : Cd), Fit c → c.dp < n → Mi.mf_law_times n [c.d, .int b] = some (c.re fun _ k => b * k).d
  | 0, c, _, h => absurd h (Nat.not_lt_zero _)
  | n + 1, .one y k, _, _ => by
    have hm : mulD (.int b) (.int k) = some (.int (b * k)) := mul_ok (Or.inl (by omega))
    simp only [Cd.d, Cd.re]
    simp only [e_run, e_seq, seq_nx, seq_rt, seq_none, e_skip, e_set, e_own, nxK_some, vK_some, oK_some, e_ret, rtK_some, e_if, ifK_some, e_fVar, e_bVar, va_val, vb_val, vb_own, vb_bor, at_0, at_S, set_0, set_S, e_K, e_f1, o1_some, e_f2, o2_some, e_and, and_t, and_f, and_b, e_or, or_b, e_tOf, to_b, e_tAnd, tand_b, e_tOr, tor_b, e_tNot, not_b, e_tYes, e_fIf, fif_b, e_nil, e_cons, cons_some, e_tup, tup_some, e_lst, lst_some, e_call, call_some, e_m1, e_m2, e_sSeq, seqs_l, seqs_t, seqs_s, e_for, for_some, e_asg, tg_some, e_gN, e_gT2, e_gT3, e_frz, frz_own, e_retOwn, ch_b, e_lc, co_some, lc_some, wipe_nil, wipe_cons, end_rt, end_nx, pt_none, pt_some, int_some, e_cut, cut_l, cut_t, e_app, e_sRng, pad_0, sl_f, sl_t, sl_nil, add_i, sub_i, lt_i, le_i, gt_i, ge_i, neg_i, not_d, len_l, len_t, ix_l, ix_t, max2_i, min2_i, tup_l, tup_t, lst_l, lst_t, rev_l, rev_t, bool_i, bool_b, int_b, isn_n, e_chain, e_par, e_m3, List.length_cons, List.length_nil, List.replicate, List.cons_append, List.nil_append, Option.map_some, Nat.reduceAdd, Nat.reduceSub, Nat.zero_add, if_true, if_false, ite_true, ite_false, Bool.false_eq_true, reduceCtorEq, decide_true, decide_false, not_true, not_false_iff, Bool.not_true, Bool.not_false, Bool.and_true, Bool.true_and, Bool.and_false, Bool.false_and, Bool.or_true, Bool.true_or, Bool.or_false, Bool.false_or, Mi.mf_law_times, Mi.G_law_times, at_one0, at_one1, inst_s, hm]
  | n + 1, .tie ps, h, hd => by
    obtain ⟨h2, _⟩ := tie_ok h.ok
    obtain ⟨l, hl⟩ := tie_at h2
    have hc : compL (gN 2) tYes (fCall (Mi.mf_law_times n) [fVar 2, fVar 1]) [.val (.tuple (Cd.ds ps)), .val (.int b), .no] (Cd.ds ps) = some (Cd.ds (Cd.res (fun _ k => b * k) ps)) := by
      rw [Cd.ds_map, Cd.ds_map, Cd.res_map, compL_of (g := fun c => (c.re fun _ k => b * k).d) fun c hc => ⟨_, rfl, by simp only [e_run, e_seq, seq_nx, seq_rt, seq_none, e_skip, e_set, e_own, nxK_some, vK_some, oK_some, e_ret, rtK_some, e_if, ifK_some, e_fVar, e_bVar, va_val, vb_val, vb_own, vb_bor, at_0, at_S, set_0, set_S, e_K, e_f1, o1_some, e_f2, o2_some, e_and, and_t, and_f, and_b, e_or, or_b, e_tOf, to_b, e_tAnd, tand_b, e_tOr, tor_b, e_tNot, not_b, e_tYes, e_fIf, fif_b, e_nil, e_cons, cons_some, e_tup, tup_some, e_lst, lst_some, e_call, call_some, e_m1, e_m2, e_sSeq, seqs_l, seqs_t, seqs_s, e_for, for_some, e_asg, tg_some, e_gN, e_gT2, e_gT3, e_frz, frz_own, e_retOwn, ch_b, e_lc, co_some, lc_some, wipe_nil, wipe_cons, end_rt, end_nx, pt_none, pt_some, int_some, e_cut, cut_l, cut_t, e_app, e_sRng, pad_0, sl_f, sl_t, sl_nil, add_i, sub_i, lt_i, le_i, gt_i, ge_i, neg_i, not_d, len_l, len_t, ix_l, ix_t, max2_i, min2_i, tup_l, tup_t, lst_l, lst_t, rev_l, rev_t, bool_i, bool_b, int_b, isn_n, e_chain, e_par, e_m3, List.length_cons, List.length_nil, List.replicate, List.cons_append, List.nil_append, Option.map_some, Nat.reduceAdd, Nat.reduceSub, Nat.zero_add, if_true, if_false, ite_true, ite_false, Bool.false_eq_true, reduceCtorEq, decide_true, decide_false, not_true, not_false_iff, Bool.not_true, Bool.not_false, Bool.and_true, Bool.true_and, Bool.and_false, Bool.false_and, Bool.or_true, Bool.true_or, Bool.or_false, Bool.false_or, times_ok b hb n c (part_fit h hc) (dp_part hc hd)]⟩, List.map_map]
      rfl
    have hf : fitsL (Cd.ds (Cd.res (fun _ k => b * k) ps)).length = true := fitsL_small (by rw [Cd.ds_len, Cd.res_map, List.length_map]; have := fit_len h; omega)
    simp only [Cd.d, Cd.re]
    simp only [e_run, e_seq, seq_nx, seq_rt, seq_none, e_skip, e_set, e_own, nxK_some, vK_some, oK_some, e_ret, rtK_some, e_if, ifK_some, e_fVar, e_bVar, va_val, vb_val, vb_own, vb_bor, at_0, at_S, set_0, set_S, e_K, e_f1, o1_some, e_f2, o2_some, e_and, and_t, and_f, and_b, e_or, or_b, e_tOf, to_b, e_tAnd, tand_b, e_tOr, tor_b, e_tNot, not_b, e_tYes, e_fIf, fif_b, e_nil, e_cons, cons_some, e_tup, tup_some, e_lst, lst_some, e_call, call_some, e_m1, e_m2, e_sSeq, seqs_l, seqs_t, seqs_s, e_for, for_some, e_asg, tg_some, e_gN, e_gT2, e_gT3, e_frz, frz_own, e_retOwn, ch_b, e_lc, co_some, lc_some, wipe_nil, wipe_cons, end_rt, end_nx, pt_none, pt_some, int_some, e_cut, cut_l, cut_t, e_app, e_sRng, pad_0, sl_f, sl_t, sl_nil, add_i, sub_i, lt_i, le_i, gt_i, ge_i, neg_i, not_d, len_l, len_t, ix_l, ix_t, max2_i, min2_i, tup_l, tup_t, lst_l, lst_t, rev_l, rev_t, bool_i, bool_b, int_b, isn_n, e_chain, e_par, e_m3, List.length_cons, List.length_nil, List.replicate, List.cons_append, List.nil_append, Option.map_some, Nat.reduceAdd, Nat.reduceSub, Nat.zero_add, if_true, if_false, ite_true, ite_false, Bool.false_eq_true, reduceCtorEq, decide_true, decide_false, not_true, not_false_iff, Bool.not_true, Bool.not_false, Bool.and_true, Bool.true_and, Bool.and_false, Bool.false_and, Bool.or_true, Bool.true_or, Bool.or_false, Bool.false_or, Mi.mf_law_times, Mi.G_law_times, hl, inst_t, hc, hf]
theorem times_fit {c : Cd} (h : Fit c) (b : Int) (hb : 0 ≤ b ∧ b < 1000000) : Mi.m_law_times [c.d, .int b] = some (c.re fun _ k => b * k).d := times_ok b hb 24 c h (by have := fit_dp h; omega)
/-! ### no stronger than the sum -/
theorem desc_sum : ∀ {l : List Int}, l.Pairwise (fun a b => b ≤ a) → (∀ n ∈ l, 0 ≤ n) → ∀ (j : Nat) (n : Int), l[j]? = some n → ((j + 1 : Nat) : Int) * n ≤ l.sum
  | [], _, _, j, n, h => by cases h
  | a :: r, hs, h0, j, n, h => by
    have hr0 : 0 ≤ r.sum := by
      have h1 : ∀ n ∈ r, 0 ≤ n := fun n hn => h0 n (List.mem_cons_of_mem _ hn)
      clear hs h0 h
      induction r with
      | nil => simp
      | cons b r ih =>
        have := h1 b List.mem_cons_self
        have := ih fun n hn => h1 n (List.mem_cons_of_mem _ hn)
        simp only [List.sum_cons]
        omega
    cases j with
    | zero =>
      cases h
      simp only [List.sum_cons]
      have : ((0 + 1 : Nat) : Int) * a = a := by simp
      omega
    | succ j =>
      have hr : r[j]? = some n := by simpa using h
      have ih := desc_sum (List.pairwise_cons.mp hs).2 (fun n hn => h0 n (List.mem_cons_of_mem _ hn)) j n hr
      have hna := (List.pairwise_cons.mp hs).1 n (List.mem_of_getElem? hr)
      have e : ((j + 1 + 1 : Nat) : Int) * n = ((j + 1 : Nat) : Int) * n + n := by
        rw [show ((j + 1 + 1 : Nat) : Int) = ((j + 1 : Nat) : Int) + 1 by omega, Int.add_mul, Int.one_mul]
      simp only [List.sum_cons]
      omega
theorem sum_perm {a b : List Int} (h : a.Perm b) : a.sum = b.sum := by
  induction h with
  | nil => rfl
  | cons x _ ih => simp [ih]
  | swap x y l => simp only [List.sum_cons]; omega
  | trans _ _ i1 i2 => rw [i1, i2]
theorem best_sum {ns : List Int} (hne : ns ≠ []) (h : ∀ n ∈ ns, 0 ≤ n) : best ns ≤ ns.sum := by
  have hb := best_some hne
  obtain ⟨j, n, h1, h2⟩ := (bestL_le (p := best ns) (q := 1) (by decide) hb).mp (by omega)
  have := desc_sum (desc_sorted ns) (fun n hn => h n ((desc_perm ns).mem_iff.mp hn)) j n h1
  rw [sum_perm (desc_perm ns)] at this
  rw [Int.mul_one, show 0 + j + 1 = j + 1 by omega] at h2
  omega
mutual
theorem gr_sum : ∀ c : Cd, c.ok → (∀ s ∈ c.ss, 0 ≤ s.2) → 0 ≤ gr c ∧ gr c ≤ (c.ss.map (·.2)).sum
  | .one x n, _, h => by
    have := h (x, n) (by simp [Cd.ss])
    simp only [gr, Cd.ss, List.map_cons, List.map_nil, List.sum_cons, List.sum_nil]
    simp only at this
    omega
  | .tie ps, ok, h => by
    obtain ⟨h1, h2⟩ := (by simpa only [Cd.ok] using ok : 2 ≤ ps.length ∧ Cd.oks ps)
    have hne : grs ps ≠ [] := by intro e; have := congrArg List.length e; rw [grs_len] at this; simp at this; rw [this] at h1; simp at h1
    obtain ⟨g1, g2⟩ := grs_sum ps h2 (by simpa only [Cd.ss] using h)
    simp only [gr, Cd.ss]
    refine ⟨?_, Int.le_trans (best_sum hne g1) g2⟩
    have hb := best_some hne
    have hd : ∀ n ∈ desc (grs ps), 0 ≤ n := fun n hn => g1 n ((desc_perm _).mem_iff.mp hn)
    match e : desc (grs ps), hd, hb with
    | [], _, hb => cases hb
    | a :: r, hd, hb =>
      have ha := hd a List.mem_cons_self
      have := (bestL_le (p := 0) (q := 1) (by decide) hb).mpr ⟨0, a, rfl, by simp; omega⟩
      omega
theorem grs_sum : ∀ cs : List Cd, Cd.oks cs → (∀ s ∈ Cd.sss cs, 0 ≤ s.2) → (∀ n ∈ grs cs, 0 ≤ n) ∧ (grs cs).sum ≤ ((Cd.sss cs).map (·.2)).sum
  | [], _, _ => by simp [grs, Cd.sss]
  | c :: cs, ok, h => by
    obtain ⟨h1, h2⟩ := (by simpa only [Cd.oks] using ok : c.ok ∧ Cd.oks cs)
    obtain ⟨a1, a2⟩ := gr_sum c h1 fun s hs => h s (by simp only [Cd.sss]; exact List.mem_append_left _ hs)
    obtain ⟨b1, b2⟩ := grs_sum cs h2 fun s hs => h s (by simp only [Cd.sss]; exact List.mem_append_right _ hs)
    simp only [grs, Cd.sss, List.map_append, List.sum_append, List.sum_cons]
    refine ⟨fun n hn => ?_, by omega⟩
    rcases List.mem_cons.mp hn with rfl | hn
    · exact a1
    · exact b1 n hn
end
theorem gr_792 {c : Cd} (h : Fit c) (g : Good 8 c.ss) : 0 ≤ gr c ∧ gr c ≤ 792 := by
  obtain ⟨a, b⟩ := gr_sum c h.ok fun s hs => by have := g.str s hs; omega
  have := sum_ok g
  omega
end Fact
set_option maxRecDepth 100000
/-! Law k09 by its mirrors. -/
namespace Fact
open PySem Pu
/-- whether a strand holds where the unknown one is so strong -/
def doesB (p q : Int) (c : Cd) (u x : Str) (m : Int) : Bool := holdS p q (c.re (withS u m)) x
theorem holdN_has {c : Cd} {p q : Int} {x : Str} : (holdN p q c).contains x = holdS p q c x := by
  rw [Bool.eq_iff_iff, List.contains_iff_mem, holdS_iff]
  unfold holdN
  rw [ssort_mem]
  constructor
  · intro h
    obtain ⟨r, hr, rfl⟩ := List.mem_map.mp h
    exact ⟨r.2, hr⟩
  · rintro ⟨q', h⟩
    exact List.mem_map.mpr ⟨_, h, rfl⟩
theorem holding_fit {c : Cd} {p q : Int} (h : Fit c) (hp : 0 ≤ p) (hq : 0 < q) (hb : q < 10000) : Mi.m_holding [c.d, lowD p q] = some (.tuple (stL (holdN p q c))) := holding_ok h hp hq hb
theorem does_ok {c : Cd} {p q : Int} (h : Fit c) (hp : 0 ≤ p) (hq : 0 < q) (hb : q < 10000) (u x : Str) (m : Int) : Mi.m_does [c.d, lowD p q, .str u, .str x, .int m] = some (.bool (doesB p q c u x m)) := by
  have h1 := changed_fit h [(u, m)]
  rw [pick_one] at h1
  have h0 : dS (sR [(u, m)]) = .dict [(.str u, .int m)] := rfl
  rw [h0] at h1
  have h2 := holding_fit (h.re (withS u m)) hp hq hb
  have h3 := in_t x (holdN p q (c.re (withS u m)))
  rw [holdN_has] at h3
  simp only [e_run, e_seq, seq_nx, seq_rt, seq_none, e_skip, e_set, e_own, nxK_some, vK_some, oK_some, e_ret, rtK_some, e_if, ifK_some, e_fVar, e_bVar, va_val, vb_val, vb_own, vb_bor, at_0, at_S, set_0, set_S, e_K, e_f1, o1_some, e_f2, o2_some, e_and, and_t, and_f, and_b, e_or, or_b, e_tOf, to_b, e_tAnd, tand_b, e_tOr, tor_b, e_tNot, not_b, e_tYes, e_fIf, fif_b, e_nil, e_cons, cons_some, e_tup, tup_some, e_lst, lst_some, e_call, call_some, e_m1, e_m2, e_sSeq, seqs_l, seqs_t, seqs_s, e_for, for_some, e_asg, tg_some, e_gN, e_gT2, e_gT3, e_frz, frz_own, e_retOwn, ch_b, e_lc, co_some, lc_some, wipe_nil, wipe_cons, end_rt, end_nx, pt_none, pt_some, int_some, e_cut, cut_l, cut_t, e_app, e_sRng, pad_0, sl_f, sl_t, sl_nil, add_i, sub_i, lt_i, le_i, gt_i, ge_i, neg_i, not_d, len_l, len_t, ix_l, ix_t, max2_i, min2_i, tup_l, tup_t, lst_l, lst_t, rev_l, rev_t, bool_i, bool_b, int_b, isn_n, e_chain, e_par, e_m3, List.length_cons, List.length_nil, List.replicate, List.cons_append, List.nil_append, Option.map_some, Nat.reduceAdd, Nat.reduceSub, Nat.zero_add, if_true, if_false, ite_true, ite_false, Bool.false_eq_true, reduceCtorEq, decide_true, decide_false, not_true, not_false_iff, Bool.not_true, Bool.not_false, Bool.and_true, Bool.true_and, Bool.and_false, Bool.false_and, Bool.or_true, Bool.true_or, Bool.or_false, Bool.false_or, Mi.m_does, Mi.G_does, e_dict1, d1_s, h1, h2, h3]
  rfl
theorem law_does_ok {c : Cd} {p q : Int} (h : Fit c) (hp : 0 ≤ p) (hq : 0 < q) (hb : q < 10000) (u x : Str) (m : Int) : Mi.m_law_does [c.d, lowD p q, .str u, .str x, .int m] = some (.bool (doesB p q c u x m)) := by
  have h1 := weak_fit h u m
  have h2 := names_ok h
  have h3 := law_held_all (h.re (withS u m)) hp hq hb (ls := ssort (nms c)) (by rw [re_nms]; exact ssort_perm _)
  have h4 := in_t x (holdN p q (c.re (withS u m)))
  rw [holdN_has] at h4
  simp only [e_run, e_seq, seq_nx, seq_rt, seq_none, e_skip, e_set, e_own, nxK_some, vK_some, oK_some, e_ret, rtK_some, e_if, ifK_some, e_fVar, e_bVar, va_val, vb_val, vb_own, vb_bor, at_0, at_S, set_0, set_S, e_K, e_f1, o1_some, e_f2, o2_some, e_and, and_t, and_f, and_b, e_or, or_b, e_tOf, to_b, e_tAnd, tand_b, e_tOr, tor_b, e_tNot, not_b, e_tYes, e_fIf, fif_b, e_nil, e_cons, cons_some, e_tup, tup_some, e_lst, lst_some, e_call, call_some, e_m1, e_m2, e_sSeq, seqs_l, seqs_t, seqs_s, e_for, for_some, e_asg, tg_some, e_gN, e_gT2, e_gT3, e_frz, frz_own, e_retOwn, ch_b, e_lc, co_some, lc_some, wipe_nil, wipe_cons, end_rt, end_nx, pt_none, pt_some, int_some, e_cut, cut_l, cut_t, e_app, e_sRng, pad_0, sl_f, sl_t, sl_nil, add_i, sub_i, lt_i, le_i, gt_i, ge_i, neg_i, not_d, len_l, len_t, ix_l, ix_t, max2_i, min2_i, tup_l, tup_t, lst_l, lst_t, rev_l, rev_t, bool_i, bool_b, int_b, isn_n, e_chain, e_par, e_m3, List.length_cons, List.length_nil, List.replicate, List.cons_append, List.nil_append, Option.map_some, Nat.reduceAdd, Nat.reduceSub, Nat.zero_add, if_true, if_false, ite_true, ite_false, Bool.false_eq_true, reduceCtorEq, decide_true, decide_false, not_true, not_false_iff, Bool.not_true, Bool.not_false, Bool.and_true, Bool.true_and, Bool.and_false, Bool.false_and, Bool.or_true, Bool.true_or, Bool.or_false, Bool.false_or, Mi.m_law_does, Mi.G_law_does, h1, h2, h3, h4]
  rfl
/-- by a stronger one all hold on -/
theorem does_mono {c : Cd} {p q : Int} (h : Fit c) (hp : 0 ≤ p) (hq : 0 < q) (h0 : ∀ s ∈ c.ss, 0 ≤ s.2) {u x : Str} (hx : x ∈ nms c) {m m' : Int} (hm : 0 ≤ m) (hmm : m ≤ m') (hd : doesB p q c u x m = true) : doesB p q c u x m' = true := by
  refine stable_hold (e := (p, q)) (h.re _) hp hq ?_ x (by rw [re_nms]; exact hx) hd
  refine re_stable (f := withS u m) (g := withS u m') (Int.le_of_lt hq) (fun s hs _ => Or.inl ?_) hp (fun s hs => ?_) (fun s hs _ => ?_) (hold_stable (e := (p, q)) (h.re _) hp hq)
  · unfold withS; split <;> omega
  · unfold withS
    have := h0 s hs
    split <;> omega
  · unfold withS; split <;> omega
/-- beyond the load nothing changes -/
theorem does_far {c : Cd} {p q : Int} (h : Fit c) (hp : 0 ≤ p) (hq : 0 < q) (h0 : ∀ s ∈ c.ss, 0 ≤ s.2) {u x : Str} (hx : x ∈ nms c) {m m' : Int} (hm : 0 ≤ m) (hfar : p ≤ m * q) (hd : doesB p q c u x m' = true) : doesB p q c u x m = true := by
  refine stable_hold (e := (p, q)) (h.re _) hp hq ?_ x (by rw [re_nms]; exact hx) hd
  refine re_stable (f := withS u m') (g := withS u m) (Int.le_of_lt hq) (fun s hs _ => ?_) hp (fun s hs => ?_) (fun s hs hn => ?_) (hold_stable (e := (p, q)) (h.re _) hp hq)
  · unfold withS
    split
    · exact Or.inr hfar
    · exact Or.inl (Int.le_refl _)
  · unfold withS
    have := h0 s hs
    split <;> omega
  · unfold withS at hn ⊢
    split
    · rename_i e
      rw [if_pos e] at hn
      rcases Int.lt_or_le m m' with g | g
      · exact absurd (Int.le_trans hfar (Int.mul_le_mul_of_nonneg_right (Int.le_of_lt g) (Int.le_of_lt hq))) hn
      · exact g
    · exact Int.le_refl _
/-- the number from which the load itself is held -/
def ceilQ (p q : Int) : Int := max 1 (0 - (0 - p) / q)
theorem ceil_le {p q : Int} (hq : 0 < q) : p ≤ ceilQ p q * q := by
  have h := Int.ediv_mul_le (0 - p) (b := q) (by omega)
  have h2 : (0 - (0 - p) / q) * q ≤ ceilQ p q * q := Int.mul_le_mul_of_nonneg_right (by unfold ceilQ; omega) (Int.le_of_lt hq)
  have e : (0 - (0 - p) / q) * q = 0 - (0 - p) / q * q := by rw [Int.sub_mul, Int.zero_mul]
  omega
theorem ceil_bound {p q B : Int} (hq : 0 < q) (hB : 1 ≤ B) (h : p ≤ B * q) : ceilQ p q ≤ B := by
  have : -B ≤ (0 - p) / q := (Int.le_ediv_iff_mul_le hq).mpr (by rw [Int.neg_mul]; omega)
  unfold ceilQ
  omega
/-- the least one by which it holds -/
theorem least_ok {c : Cd} {p q : Int} (h : Fit c) (hp : 0 ≤ p) (hq : 0 < q) (hb : q < 10000) (h0 : ∀ s ∈ c.ss, 0 ≤ s.2) (u x : Str) (hx : x ∈ nms c) (B : Int) (hB : 1 ≤ B) (hpB : p ≤ B * q) (hB2 : B < 10000000000) :
    (Mi.m_least_of [c.d, lowD p q, .str u, .str x] = some .none ∧ ∀ m, 0 ≤ m → doesB p q c u x m = false) ∨
    ∃ m, Mi.m_least_of [c.d, lowD p q, .str u, .str x] = some (.int m) ∧ 1 ≤ m ∧ m ≤ B ∧ doesB p q c u x m = true ∧ (1 < m → doesB p q c u x (m - 1) = false) := by
  obtain ⟨p0, q0, e, g1, g2, g3, g4⟩ := low_form hp hq
  have hcB : ceilQ p0 q0 ≤ B := ceil_bound g2 hB ((ratio_le (x := B) g2 hq g4).mpr hpB)
  have hc1 : 1 ≤ ceilQ p0 q0 := by unfold ceilQ; omega
  have hfar : p ≤ ceilQ p0 q0 * q := (ratio_le (x := ceilQ p0 q0) g2 hq g4).mp (ceil_le g2)
  have d1 : divD (.int (0 - p0)) (.int q0) = some (.int ((0 - p0) / q0)) := div_ok g2 (by omega)
  have hdo := fun m => does_ok h hp hq hb u x m
  have hmax : max 1 (0 - (0 - p0) / q0) = ceilQ p0 q0 := rfl
  rw [e] at hdo ⊢
  simp only [ldD] at hdo ⊢
  cases hd : doesB p q c u x (ceilQ p0 q0) with
  | false =>
    refine Or.inl ⟨?_, fun m hm => ?_⟩
    · have := hdo (ceilQ p0 q0)
      rw [hd] at this
      simp only [e_run, e_seq, seq_nx, seq_rt, seq_none, e_skip, e_set, e_own, nxK_some, vK_some, oK_some, e_ret, rtK_some, e_if, ifK_some, e_fVar, e_bVar, va_val, vb_val, vb_own, vb_bor, at_0, at_S, set_0, set_S, e_K, e_f1, o1_some, e_f2, o2_some, e_and, and_t, and_f, and_b, e_or, or_b, e_tOf, to_b, e_tAnd, tand_b, e_tOr, tor_b, e_tNot, not_b, e_tYes, e_fIf, fif_b, e_nil, e_cons, cons_some, e_tup, tup_some, e_lst, lst_some, e_call, call_some, e_m1, e_m2, e_sSeq, seqs_l, seqs_t, seqs_s, e_for, for_some, e_asg, tg_some, e_gN, e_gT2, e_gT3, e_frz, frz_own, e_retOwn, ch_b, e_lc, co_some, lc_some, wipe_nil, wipe_cons, end_rt, end_nx, pt_none, pt_some, int_some, e_cut, cut_l, cut_t, e_app, e_sRng, pad_0, sl_f, sl_t, sl_nil, add_i, sub_i, lt_i, le_i, gt_i, ge_i, neg_i, not_d, len_l, len_t, ix_l, ix_t, max2_i, min2_i, tup_l, tup_t, lst_l, lst_t, rev_l, rev_t, bool_i, bool_b, int_b, isn_n, e_chain, e_par, e_m3, List.length_cons, List.length_nil, List.replicate, List.cons_append, List.nil_append, Option.map_some, Nat.reduceAdd, Nat.reduceSub, Nat.zero_add, if_true, if_false, ite_true, ite_false, Bool.false_eq_true, reduceCtorEq, decide_true, decide_false, not_true, not_false_iff, Bool.not_true, Bool.not_false, Bool.and_true, Bool.true_and, Bool.and_false, Bool.false_and, Bool.or_true, Bool.true_or, Bool.or_false, Bool.false_or, Mi.m_least_of, Mi.G_least_of, e_par, at_two0, at_two1, d1, hmax, this]
    · cases hm2 : doesB p q c u x m with
      | false => rfl
      | true => have := does_far h hp hq h0 hx (by omega) hfar hm2; rw [hd] at this; cases this
  | true =>
    have d2 : ∀ i : Int, divD (.int i) (.int 2) = some (.int (i / 2)) := fun i => div_ok (by decide) (by decide)
    let mk : Int → Int → Slot → Rho := fun lo hi s6 => [.val c.d, .val (.tuple [.int p0, .int q0]), .val (.str u), .val (.str x), .val (.int lo), .val (.int hi), s6]
    obtain ⟨k, ρ', w1, ⟨lo, hi, s6, i1, i2, i3, i4, i5, i6, i7⟩, w2⟩ := while_ok (t := tOf (f2 ltD (bVar 4) (bVar 5))) (body := Mi.B_least_of_1 Mi.m_does)
      (I := fun n ρ => ∃ lo hi s6, 1 ≤ lo ∧ lo ≤ hi ∧ hi ≤ ceilQ p0 q0 ∧ (hi - lo).toNat = n ∧ doesB p q c u x hi = true ∧ (∀ m, 1 ≤ m → m < lo → doesB p q c u x m = false) ∧ ρ = mk lo hi s6) (fun n ρ hI => by
        obtain ⟨lo, hi, s6, i1, i2, i3, i4, i5, i6, rfl⟩ := hI
        by_cases hlt : lo < hi
        · refine Or.inr ⟨by simp only [mk]; simp only [e_run, e_seq, seq_nx, seq_rt, seq_none, e_skip, e_set, e_own, nxK_some, vK_some, oK_some, e_ret, rtK_some, e_if, ifK_some, e_fVar, e_bVar, va_val, vb_val, vb_own, vb_bor, at_0, at_S, set_0, set_S, e_K, e_f1, o1_some, e_f2, o2_some, e_and, and_t, and_f, and_b, e_or, or_b, e_tOf, to_b, e_tAnd, tand_b, e_tOr, tor_b, e_tNot, not_b, e_tYes, e_fIf, fif_b, e_nil, e_cons, cons_some, e_tup, tup_some, e_lst, lst_some, e_call, call_some, e_m1, e_m2, e_sSeq, seqs_l, seqs_t, seqs_s, e_for, for_some, e_asg, tg_some, e_gN, e_gT2, e_gT3, e_frz, frz_own, e_retOwn, ch_b, e_lc, co_some, lc_some, wipe_nil, wipe_cons, end_rt, end_nx, pt_none, pt_some, int_some, e_cut, cut_l, cut_t, e_app, e_sRng, pad_0, sl_f, sl_t, sl_nil, add_i, sub_i, lt_i, le_i, gt_i, ge_i, neg_i, not_d, len_l, len_t, ix_l, ix_t, max2_i, min2_i, tup_l, tup_t, lst_l, lst_t, rev_l, rev_t, bool_i, bool_b, int_b, isn_n, e_chain, e_par, e_m3, List.length_cons, List.length_nil, List.replicate, List.cons_append, List.nil_append, Option.map_some, Nat.reduceAdd, Nat.reduceSub, Nat.zero_add, if_true, if_false, ite_true, ite_false, Bool.false_eq_true, reduceCtorEq, decide_true, decide_false, not_true, not_false_iff, Bool.not_true, Bool.not_false, Bool.and_true, Bool.true_and, Bool.and_false, Bool.false_and, Bool.or_true, Bool.true_or, Bool.or_false, Bool.false_or, hlt], ?_⟩
          have hmid1 : lo ≤ (lo + hi) / 2 := by omega
          have hmid2 : (lo + hi) / 2 < hi := by omega
          have hdm := hdo ((lo + hi) / 2)
          cases hm : doesB p q c u x ((lo + hi) / 2) with
          | true =>
            rw [hm] at hdm
            refine ⟨((lo + hi) / 2 - lo).toNat, mk lo ((lo + hi) / 2) (.val (.int ((lo + hi) / 2))), by omega, ?_, lo, _, _, i1, hmid1, by omega, rfl, hm, i6, rfl⟩
            simp only [mk]
            simp only [e_run, e_seq, seq_nx, seq_rt, seq_none, e_skip, e_set, e_own, nxK_some, vK_some, oK_some, e_ret, rtK_some, e_if, ifK_some, e_fVar, e_bVar, va_val, vb_val, vb_own, vb_bor, at_0, at_S, set_0, set_S, e_K, e_f1, o1_some, e_f2, o2_some, e_and, and_t, and_f, and_b, e_or, or_b, e_tOf, to_b, e_tAnd, tand_b, e_tOr, tor_b, e_tNot, not_b, e_tYes, e_fIf, fif_b, e_nil, e_cons, cons_some, e_tup, tup_some, e_lst, lst_some, e_call, call_some, e_m1, e_m2, e_sSeq, seqs_l, seqs_t, seqs_s, e_for, for_some, e_asg, tg_some, e_gN, e_gT2, e_gT3, e_frz, frz_own, e_retOwn, ch_b, e_lc, co_some, lc_some, wipe_nil, wipe_cons, end_rt, end_nx, pt_none, pt_some, int_some, e_cut, cut_l, cut_t, e_app, e_sRng, pad_0, sl_f, sl_t, sl_nil, add_i, sub_i, lt_i, le_i, gt_i, ge_i, neg_i, not_d, len_l, len_t, ix_l, ix_t, max2_i, min2_i, tup_l, tup_t, lst_l, lst_t, rev_l, rev_t, bool_i, bool_b, int_b, isn_n, e_chain, e_par, e_m3, List.length_cons, List.length_nil, List.replicate, List.cons_append, List.nil_append, Option.map_some, Nat.reduceAdd, Nat.reduceSub, Nat.zero_add, if_true, if_false, ite_true, ite_false, Bool.false_eq_true, reduceCtorEq, decide_true, decide_false, not_true, not_false_iff, Bool.not_true, Bool.not_false, Bool.and_true, Bool.true_and, Bool.and_false, Bool.false_and, Bool.or_true, Bool.true_or, Bool.or_false, Bool.false_or, Mi.B_least_of_1, d2, hdm]
          | false =>
            rw [hm] at hdm
            refine ⟨(hi - ((lo + hi) / 2 + 1)).toNat, mk ((lo + hi) / 2 + 1) hi (.val (.int ((lo + hi) / 2))), by omega, ?_, _, hi, _, by omega, by omega, i3, rfl, i5, fun m m1 m2 => ?_, rfl⟩
            · simp only [mk]
              simp only [e_run, e_seq, seq_nx, seq_rt, seq_none, e_skip, e_set, e_own, nxK_some, vK_some, oK_some, e_ret, rtK_some, e_if, ifK_some, e_fVar, e_bVar, va_val, vb_val, vb_own, vb_bor, at_0, at_S, set_0, set_S, e_K, e_f1, o1_some, e_f2, o2_some, e_and, and_t, and_f, and_b, e_or, or_b, e_tOf, to_b, e_tAnd, tand_b, e_tOr, tor_b, e_tNot, not_b, e_tYes, e_fIf, fif_b, e_nil, e_cons, cons_some, e_tup, tup_some, e_lst, lst_some, e_call, call_some, e_m1, e_m2, e_sSeq, seqs_l, seqs_t, seqs_s, e_for, for_some, e_asg, tg_some, e_gN, e_gT2, e_gT3, e_frz, frz_own, e_retOwn, ch_b, e_lc, co_some, lc_some, wipe_nil, wipe_cons, end_rt, end_nx, pt_none, pt_some, int_some, e_cut, cut_l, cut_t, e_app, e_sRng, pad_0, sl_f, sl_t, sl_nil, add_i, sub_i, lt_i, le_i, gt_i, ge_i, neg_i, not_d, len_l, len_t, ix_l, ix_t, max2_i, min2_i, tup_l, tup_t, lst_l, lst_t, rev_l, rev_t, bool_i, bool_b, int_b, isn_n, e_chain, e_par, e_m3, List.length_cons, List.length_nil, List.replicate, List.cons_append, List.nil_append, Option.map_some, Nat.reduceAdd, Nat.reduceSub, Nat.zero_add, if_true, if_false, ite_true, ite_false, Bool.false_eq_true, reduceCtorEq, decide_true, decide_false, not_true, not_false_iff, Bool.not_true, Bool.not_false, Bool.and_true, Bool.true_and, Bool.and_false, Bool.false_and, Bool.or_true, Bool.true_or, Bool.or_false, Bool.false_or, Mi.B_least_of_1, d2, hdm]
            · cases hm2 : doesB p q c u x m with
              | false => rfl
              | true => have := does_mono h hp hq h0 hx (show 0 ≤ m by omega) (show m ≤ (lo + hi) / 2 by omega) hm2; rw [hm] at this; cases this
        · exact Or.inl (by simp only [mk]; simp only [e_run, e_seq, seq_nx, seq_rt, seq_none, e_skip, e_set, e_own, nxK_some, vK_some, oK_some, e_ret, rtK_some, e_if, ifK_some, e_fVar, e_bVar, va_val, vb_val, vb_own, vb_bor, at_0, at_S, set_0, set_S, e_K, e_f1, o1_some, e_f2, o2_some, e_and, and_t, and_f, and_b, e_or, or_b, e_tOf, to_b, e_tAnd, tand_b, e_tOr, tor_b, e_tNot, not_b, e_tYes, e_fIf, fif_b, e_nil, e_cons, cons_some, e_tup, tup_some, e_lst, lst_some, e_call, call_some, e_m1, e_m2, e_sSeq, seqs_l, seqs_t, seqs_s, e_for, for_some, e_asg, tg_some, e_gN, e_gT2, e_gT3, e_frz, frz_own, e_retOwn, ch_b, e_lc, co_some, lc_some, wipe_nil, wipe_cons, end_rt, end_nx, pt_none, pt_some, int_some, e_cut, cut_l, cut_t, e_app, e_sRng, pad_0, sl_f, sl_t, sl_nil, add_i, sub_i, lt_i, le_i, gt_i, ge_i, neg_i, not_d, len_l, len_t, ix_l, ix_t, max2_i, min2_i, tup_l, tup_t, lst_l, lst_t, rev_l, rev_t, bool_i, bool_b, int_b, isn_n, e_chain, e_par, e_m3, List.length_cons, List.length_nil, List.replicate, List.cons_append, List.nil_append, Option.map_some, Nat.reduceAdd, Nat.reduceSub, Nat.zero_add, if_true, if_false, ite_true, ite_false, Bool.false_eq_true, reduceCtorEq, decide_true, decide_false, not_true, not_false_iff, Bool.not_true, Bool.not_false, Bool.and_true, Bool.true_and, Bool.and_false, Bool.false_and, Bool.or_true, Bool.true_or, Bool.or_false, Bool.false_or, hlt]))
      (ceilQ p0 q0 - 1).toNat 1000000000000000000000000 (mk 1 (ceilQ p0 q0) .no) (by omega) ⟨1, ceilQ p0 q0, .no, by omega, hc1, Int.le_refl _, rfl, hd, fun m m1 m2 => by omega, rfl⟩
    subst i7
    have hnl : ¬ lo < hi := by
      intro g
      have : tOf (f2 ltD (bVar 4) (bVar 5)) (mk lo hi s6) = some true := by simp only [mk]; simp only [e_run, e_seq, seq_nx, seq_rt, seq_none, e_skip, e_set, e_own, nxK_some, vK_some, oK_some, e_ret, rtK_some, e_if, ifK_some, e_fVar, e_bVar, va_val, vb_val, vb_own, vb_bor, at_0, at_S, set_0, set_S, e_K, e_f1, o1_some, e_f2, o2_some, e_and, and_t, and_f, and_b, e_or, or_b, e_tOf, to_b, e_tAnd, tand_b, e_tOr, tor_b, e_tNot, not_b, e_tYes, e_fIf, fif_b, e_nil, e_cons, cons_some, e_tup, tup_some, e_lst, lst_some, e_call, call_some, e_m1, e_m2, e_sSeq, seqs_l, seqs_t, seqs_s, e_for, for_some, e_asg, tg_some, e_gN, e_gT2, e_gT3, e_frz, frz_own, e_retOwn, ch_b, e_lc, co_some, lc_some, wipe_nil, wipe_cons, end_rt, end_nx, pt_none, pt_some, int_some, e_cut, cut_l, cut_t, e_app, e_sRng, pad_0, sl_f, sl_t, sl_nil, add_i, sub_i, lt_i, le_i, gt_i, ge_i, neg_i, not_d, len_l, len_t, ix_l, ix_t, max2_i, min2_i, tup_l, tup_t, lst_l, lst_t, rev_l, rev_t, bool_i, bool_b, int_b, isn_n, e_chain, e_par, e_m3, List.length_cons, List.length_nil, List.replicate, List.cons_append, List.nil_append, Option.map_some, Nat.reduceAdd, Nat.reduceSub, Nat.zero_add, if_true, if_false, ite_true, ite_false, Bool.false_eq_true, reduceCtorEq, decide_true, decide_false, not_true, not_false_iff, Bool.not_true, Bool.not_false, Bool.and_true, Bool.true_and, Bool.and_false, Bool.false_and, Bool.or_true, Bool.true_or, Bool.or_false, Bool.false_or, g]
      rw [this] at w2; cases w2
    have he : lo = hi := by omega
    subst he
    refine Or.inr ⟨lo, ?_, i1, by omega, i5, fun g => i6 (lo - 1) (by omega) (by omega)⟩
    have := hdo (ceilQ p0 q0)
    rw [hd] at this
    simp only [mk] at w1
    simp only [e_run, e_seq, seq_nx, seq_rt, seq_none, e_skip, e_set, e_own, nxK_some, vK_some, oK_some, e_ret, rtK_some, e_if, ifK_some, e_fVar, e_bVar, va_val, vb_val, vb_own, vb_bor, at_0, at_S, set_0, set_S, e_K, e_f1, o1_some, e_f2, o2_some, e_and, and_t, and_f, and_b, e_or, or_b, e_tOf, to_b, e_tAnd, tand_b, e_tOr, tor_b, e_tNot, not_b, e_tYes, e_fIf, fif_b, e_nil, e_cons, cons_some, e_tup, tup_some, e_lst, lst_some, e_call, call_some, e_m1, e_m2, e_sSeq, seqs_l, seqs_t, seqs_s, e_for, for_some, e_asg, tg_some, e_gN, e_gT2, e_gT3, e_frz, frz_own, e_retOwn, ch_b, e_lc, co_some, lc_some, wipe_nil, wipe_cons, end_rt, end_nx, pt_none, pt_some, int_some, e_cut, cut_l, cut_t, e_app, e_sRng, pad_0, sl_f, sl_t, sl_nil, add_i, sub_i, lt_i, le_i, gt_i, ge_i, neg_i, not_d, len_l, len_t, ix_l, ix_t, max2_i, min2_i, tup_l, tup_t, lst_l, lst_t, rev_l, rev_t, bool_i, bool_b, int_b, isn_n, e_chain, e_par, e_m3, List.length_cons, List.length_nil, List.replicate, List.cons_append, List.nil_append, Option.map_some, Nat.reduceAdd, Nat.reduceSub, Nat.zero_add, if_true, if_false, ite_true, ite_false, Bool.false_eq_true, reduceCtorEq, decide_true, decide_false, not_true, not_false_iff, Bool.not_true, Bool.not_false, Bool.and_true, Bool.true_and, Bool.and_false, Bool.false_and, Bool.or_true, Bool.true_or, Bool.or_false, Bool.false_or, Mi.m_least_of, Mi.G_least_of, e_par, at_two0, at_two1, d1, hmax, this, gWhile, w1]
theorem number_ok (m lo hi : Int) (h1 : lo ≤ m) (h2 : m ≤ hi) : Mi.m_law_number [.int m, .int lo, .int hi] = some (.bool true) := by
  simp only [e_run, e_seq, seq_nx, seq_rt, seq_none, e_skip, e_set, e_own, nxK_some, vK_some, oK_some, e_ret, rtK_some, e_if, ifK_some, e_fVar, e_bVar, va_val, vb_val, vb_own, vb_bor, at_0, at_S, set_0, set_S, e_K, e_f1, o1_some, e_f2, o2_some, e_and, and_t, and_f, and_b, e_or, or_b, e_tOf, to_b, e_tAnd, tand_b, e_tOr, tor_b, e_tNot, not_b, e_tYes, e_fIf, fif_b, e_nil, e_cons, cons_some, e_tup, tup_some, e_lst, lst_some, e_call, call_some, e_m1, e_m2, e_sSeq, seqs_l, seqs_t, seqs_s, e_for, for_some, e_asg, tg_some, e_gN, e_gT2, e_gT3, e_frz, frz_own, e_retOwn, ch_b, e_lc, co_some, lc_some, wipe_nil, wipe_cons, end_rt, end_nx, pt_none, pt_some, int_some, e_cut, cut_l, cut_t, e_app, e_sRng, pad_0, sl_f, sl_t, sl_nil, add_i, sub_i, lt_i, le_i, gt_i, ge_i, neg_i, not_d, len_l, len_t, ix_l, ix_t, max2_i, min2_i, tup_l, tup_t, lst_l, lst_t, rev_l, rev_t, bool_i, bool_b, int_b, isn_n, e_chain, e_par, e_m3, List.length_cons, List.length_nil, List.replicate, List.cons_append, List.nil_append, Option.map_some, Nat.reduceAdd, Nat.reduceSub, Nat.zero_add, if_true, if_false, ite_true, ite_false, Bool.false_eq_true, reduceCtorEq, decide_true, decide_false, not_true, not_false_iff, Bool.not_true, Bool.not_false, Bool.and_true, Bool.true_and, Bool.and_false, Bool.false_and, Bool.or_true, Bool.true_or, Bool.or_false, Bool.false_or, Mi.m_law_number, Mi.G_law_number, show isInst .int (.int m) = some (.bool true) from rfl, show isInst .bool (.int m) = some (.bool false) from rfl, h1, h2]
abbrev B1 := Mi.B_law_1 Mi.m_least_of Mi.m_law_does Mi.m_law_number
theorem pair_ok {c : Cd} {p q : Int} (h : Fit c) (hp : 0 ≤ p) (hq : 0 < q) (hb : q < 10000) (h0 : ∀ s ∈ c.ss, 0 ≤ s.2) (hpB : p ≤ 10000 * q) (more : List Int) (hl : 60 ≤ more.length) (u x : Str) (hx : x ∈ nms c) {s0 s1 s2 s5 s10 : Slot} :
    ∃ t10, B1 [s0, s1, s2, .val c.d, .val (nums more), s5, .val (lowD p q), .val (.int 1000000), .val (.str u), .val (.str x), s10] =
      some (.nx [s0, s1, s2, .val c.d, .val (nums more), s5, .val (lowD p q), .val (.int 1000000), .val (.str u), .val (.str x), t10]) := by
  have ld := fun m => law_does_ok h hp hq hb u x m
  rcases least_ok h hp hq hb h0 u x hx 10000 (by decide) hpB (by decide) with ⟨e1, e2⟩ | ⟨m, e1, e2, e3, e4, e5⟩
  · have l1 := ld 1000000
    rw [e2 _ (by decide)] at l1
    have l2 := ld 1
    rw [e2 _ (by decide)] at l2
    refine ⟨.val .none, ?_⟩
    simp only [e_run, e_seq, seq_nx, seq_rt, seq_none, e_skip, e_set, e_own, nxK_some, vK_some, oK_some, e_ret, rtK_some, e_if, ifK_some, e_fVar, e_bVar, va_val, vb_val, vb_own, vb_bor, at_0, at_S, set_0, set_S, e_K, e_f1, o1_some, e_f2, o2_some, e_and, and_t, and_f, and_b, e_or, or_b, e_tOf, to_b, e_tAnd, tand_b, e_tOr, tor_b, e_tNot, not_b, e_tYes, e_fIf, fif_b, e_nil, e_cons, cons_some, e_tup, tup_some, e_lst, lst_some, e_call, call_some, e_m1, e_m2, e_sSeq, seqs_l, seqs_t, seqs_s, e_for, for_some, e_asg, tg_some, e_gN, e_gT2, e_gT3, e_frz, frz_own, e_retOwn, ch_b, e_lc, co_some, lc_some, wipe_nil, wipe_cons, end_rt, end_nx, pt_none, pt_some, int_some, e_cut, cut_l, cut_t, e_app, e_sRng, pad_0, sl_f, sl_t, sl_nil, add_i, sub_i, lt_i, le_i, gt_i, ge_i, neg_i, not_d, len_l, len_t, ix_l, ix_t, max2_i, min2_i, tup_l, tup_t, lst_l, lst_t, rev_l, rev_t, bool_i, bool_b, int_b, isn_n, e_chain, e_par, e_m3, List.length_cons, List.length_nil, List.replicate, List.cons_append, List.nil_append, Option.map_some, Nat.reduceAdd, Nat.reduceSub, Nat.zero_add, if_true, if_false, ite_true, ite_false, Bool.false_eq_true, reduceCtorEq, decide_true, decide_false, not_true, not_false_iff, Bool.not_true, Bool.not_false, Bool.and_true, Bool.true_and, Bool.and_false, Bool.false_and, Bool.or_true, Bool.true_or, Bool.or_false, Bool.false_or, B1, Mi.B_law_1, e1, show isNoneD .none = some (.bool true) from rfl, l1, l2]
  · obtain ⟨d, _, _, hd⟩ := nums_at (ns := more) (i := 20) (by omega) (by omega)
    have hm := mod_in (a := d) (b := 50) (by decide)
    have hmo : modD (.int d) (.int 50) = some (.int (d % 50)) := mod_ok (by decide)
    have l1 := ld m
    rw [e4] at l1
    have l3 := ld (m + 1 + d % 50)
    rw [does_mono h hp hq h0 hx (show 0 ≤ m by omega) (show m ≤ m + 1 + d % 50 by omega) e4] at l3
    have n1 := number_ok m 1 1000000 e2 (by omega)
    refine ⟨.val (.int m), ?_⟩
    simp only [nums]
    by_cases g : 1 < m
    · have l2 := ld (m - 1)
      rw [e5 g] at l2
      simp only [e_run, e_seq, seq_nx, seq_rt, seq_none, e_skip, e_set, e_own, nxK_some, vK_some, oK_some, e_ret, rtK_some, e_if, ifK_some, e_fVar, e_bVar, va_val, vb_val, vb_own, vb_bor, at_0, at_S, set_0, set_S, e_K, e_f1, o1_some, e_f2, o2_some, e_and, and_t, and_f, and_b, e_or, or_b, e_tOf, to_b, e_tAnd, tand_b, e_tOr, tor_b, e_tNot, not_b, e_tYes, e_fIf, fif_b, e_nil, e_cons, cons_some, e_tup, tup_some, e_lst, lst_some, e_call, call_some, e_m1, e_m2, e_sSeq, seqs_l, seqs_t, seqs_s, e_for, for_some, e_asg, tg_some, e_gN, e_gT2, e_gT3, e_frz, frz_own, e_retOwn, ch_b, e_lc, co_some, lc_some, wipe_nil, wipe_cons, end_rt, end_nx, pt_none, pt_some, int_some, e_cut, cut_l, cut_t, e_app, e_sRng, pad_0, sl_f, sl_t, sl_nil, add_i, sub_i, lt_i, le_i, gt_i, ge_i, neg_i, not_d, len_l, len_t, ix_l, ix_t, max2_i, min2_i, tup_l, tup_t, lst_l, lst_t, rev_l, rev_t, bool_i, bool_b, int_b, isn_n, e_chain, e_par, e_m3, List.length_cons, List.length_nil, List.replicate, List.cons_append, List.nil_append, Option.map_some, Nat.reduceAdd, Nat.reduceSub, Nat.zero_add, if_true, if_false, ite_true, ite_false, Bool.false_eq_true, reduceCtorEq, decide_true, decide_false, not_true, not_false_iff, Bool.not_true, Bool.not_false, Bool.and_true, Bool.true_and, Bool.and_false, Bool.false_and, Bool.or_true, Bool.true_or, Bool.or_false, Bool.false_or, B1, Mi.B_law_1, e1, show isNoneD (.int m) = some (.bool false) from rfl, n1, l1, g, l2, ix_0, hd, hmo, l3]
    · simp only [e_run, e_seq, seq_nx, seq_rt, seq_none, e_skip, e_set, e_own, nxK_some, vK_some, oK_some, e_ret, rtK_some, e_if, ifK_some, e_fVar, e_bVar, va_val, vb_val, vb_own, vb_bor, at_0, at_S, set_0, set_S, e_K, e_f1, o1_some, e_f2, o2_some, e_and, and_t, and_f, and_b, e_or, or_b, e_tOf, to_b, e_tAnd, tand_b, e_tOr, tor_b, e_tNot, not_b, e_tYes, e_fIf, fif_b, e_nil, e_cons, cons_some, e_tup, tup_some, e_lst, lst_some, e_call, call_some, e_m1, e_m2, e_sSeq, seqs_l, seqs_t, seqs_s, e_for, for_some, e_asg, tg_some, e_gN, e_gT2, e_gT3, e_frz, frz_own, e_retOwn, ch_b, e_lc, co_some, lc_some, wipe_nil, wipe_cons, end_rt, end_nx, pt_none, pt_some, int_some, e_cut, cut_l, cut_t, e_app, e_sRng, pad_0, sl_f, sl_t, sl_nil, add_i, sub_i, lt_i, le_i, gt_i, ge_i, neg_i, not_d, len_l, len_t, ix_l, ix_t, max2_i, min2_i, tup_l, tup_t, lst_l, lst_t, rev_l, rev_t, bool_i, bool_b, int_b, isn_n, e_chain, e_par, e_m3, List.length_cons, List.length_nil, List.replicate, List.cons_append, List.nil_append, Option.map_some, Nat.reduceAdd, Nat.reduceSub, Nat.zero_add, if_true, if_false, ite_true, ite_false, Bool.false_eq_true, reduceCtorEq, decide_true, decide_false, not_true, not_false_iff, Bool.not_true, Bool.not_false, Bool.and_true, Bool.true_and, Bool.and_false, Bool.false_and, Bool.or_true, Bool.true_or, Bool.or_false, Bool.false_or, B1, Mi.B_law_1, e1, show isNoneD (.int m) = some (.bool false) from rfl, n1, l1, g, ix_0, hd, hmo, l3]
abbrev B2 := Mi.B_law_2 Mi.m_least_of Mi.m_law_does Mi.m_law_number
abbrev B3 := Mi.B_law_3 Mi.m_law_draws Mi.m_law_cord Mi.m_law_names Mi.m_law_load Mi.m_strength Mi.m_least_of Mi.m_law_does Mi.m_law_number
theorem pick2 (a b : Int) (d : Int) : ∃ x, (x = a ∨ x = b) ∧ L2.atI [PyData.int a, .int b] (d % 2) = some (.int x) := by
  have h0 := Int.emod_nonneg d (b := 2) (by decide)
  have h1 := Int.emod_lt_of_pos d (b := 2) (by decide)
  generalize d % 2 = j at h0 h1
  have : j = 0 ∨ j = 1 := by omega
  rcases this with rfl | rfl
  · exact ⟨a, Or.inl rfl, rfl⟩
  · exact ⟨b, Or.inr rfl, rfl⟩
theorem round_ok (ns : List Int) (at_ : Nat) (ha : at_ ≤ 6) {s2 s3 s4 s5 s6 s7 s8 s9 s10 : Slot} :
    ∃ t2 t3 t4 t5 t6 t7 t8 t9 t10, B3 [.val (nums ns), .val (.int (at_ : Nat)), s2, s3, s4, s5, s6, s7, s8, s9, s10] =
      some (.nx [.val (nums ns), .val (.int (at_ : Nat)), t2, t3, t4, t5, t6, t7, t8, t9, t10]) := by
  obtain ⟨row, hr, e1⟩ := draws_ok ns at_ 60 27720 (by omega) (by omega) (by decide) (by decide)
  obtain ⟨more, hr2, e2⟩ := draws_ok ns (at_ + 1) 60 27720 (by omega) (by omega) (by decide) (by decide)
  obtain ⟨c, hc, ok, good⟩ := cord_ok row 8 (by rw [hr.len]; decide) (fun n hn => (hr.low n hn).1) (by decide) (by decide)
  have h := good.fit ok
  have hl := hr2.len
  have e2' : Mi.m_law_draws [nums ns, .int ((at_ : Int) + 1), .int 60, .int 27720] = some (nums more) := e2
  have e1' : Mi.m_law_draws [nums ns, .int (at_ : Int), .int 60, .int 27720] = some (nums row) := e1
  have hc' : Mi.m_law_cord [nums row, .int 8] = some c.d := hc
  obtain ⟨g0, g1⟩ := gr_792 h good
  obtain ⟨d, _, _, hd⟩ := nums_at (ns := more) (i := 9) (by omega) (by omega)
  have hmo : modD (.int d) (.int 2) = some (.int (d % 2)) := mod_ok (by decide)
  obtain ⟨most, w, hpk⟩ := pick2 (gr c) (3 * gr c) d
  have hst := strength_ok h
  have hm3 : mulD (.int 3) (.int (gr c)) = some (.int (3 * gr c)) := mul_ok (Or.inl (by omega))
  obtain ⟨p, q, hld, hp, hq, hq7, hup⟩ := load_ok more most (by omega) (by omega) (by omega)
  have hb : q < 10000 := by omega
  have hpB : p ≤ 10000 * q := Int.le_trans hup (Int.mul_le_mul_of_nonneg_right (by omega) (by omega))
  have h0 : ∀ s ∈ c.ss, 0 ≤ s.2 := fun s hs => by have := good.str s hs; omega
  have hnm := names_ok h
  have hpw : powD (.int 10) (.int 6) = some (.int 1000000) := by rw [pow_ok (by decide) (by decide) (by decide)]; rfl
  obtain ⟨ρ', hf, t8, t9, t10, rfl⟩ := forL_keep (tg := gN 8) (body := B2) (ds := stL (ssort (nms c))) (ρ := [.val (nums ns), .val (.int (at_ : Nat)), .val (nums row), .val c.d, .val (nums more), .val (.list (stL (ssort (nms c)))), .val (lowD p q), .val (.int 1000000), s8, s9, s10])
    (I := fun ρ => ∃ t8 t9 t10, ρ = [.val (nums ns), .val (.int (at_ : Nat)), .val (nums row), .val c.d, .val (nums more), .val (.list (stL (ssort (nms c)))), .val (lowD p q), .val (.int 1000000), t8, t9, t10]) ⟨_, _, _, rfl⟩ fun d ρ hd ⟨t8, t9, t10, e⟩ => by
      subst e
      obtain ⟨u, hu, rfl⟩ := List.mem_map.mp hd
      obtain ⟨ρ', hf, t9', t10', rfl⟩ := forL_keep (tg := gN 9) (body := B1) (ds := stL (ssort (nms c))) (ρ := [.val (nums ns), .val (.int (at_ : Nat)), .val (nums row), .val c.d, .val (nums more), .val (.list (stL (ssort (nms c)))), .val (lowD p q), .val (.int 1000000), .val (.str u), t9, t10])
        (I := fun ρ => ∃ t9 t10, ρ = [.val (nums ns), .val (.int (at_ : Nat)), .val (nums row), .val c.d, .val (nums more), .val (.list (stL (ssort (nms c)))), .val (lowD p q), .val (.int 1000000), .val (.str u), t9, t10]) ⟨_, _, rfl⟩ fun d ρ hd ⟨t9, t10, e⟩ => by
          subst e
          obtain ⟨x, hx, rfl⟩ := List.mem_map.mp hd
          obtain ⟨u10, hs⟩ := pair_ok h hp hq hb h0 hpB more (by omega) u x (ssort_mem.mp hx) (s0 := .val (nums ns)) (s1 := .val (.int (at_ : Nat))) (s2 := .val (nums row)) (s5 := .val (.list (stL (ssort (nms c))))) (s10 := t10)
          exact ⟨_, _, rfl, hs, _, _, rfl⟩
      exact ⟨_, _, rfl, by simp only [e_run, e_seq, seq_nx, seq_rt, seq_none, e_skip, e_set, e_own, nxK_some, vK_some, oK_some, e_ret, rtK_some, e_if, ifK_some, e_fVar, e_bVar, va_val, vb_val, vb_own, vb_bor, at_0, at_S, set_0, set_S, e_K, e_f1, o1_some, e_f2, o2_some, e_and, and_t, and_f, and_b, e_or, or_b, e_tOf, to_b, e_tAnd, tand_b, e_tOr, tor_b, e_tNot, not_b, e_tYes, e_fIf, fif_b, e_nil, e_cons, cons_some, e_tup, tup_some, e_lst, lst_some, e_call, call_some, e_m1, e_m2, e_sSeq, seqs_l, seqs_t, seqs_s, e_for, for_some, e_asg, tg_some, e_gN, e_gT2, e_gT3, e_frz, frz_own, e_retOwn, ch_b, e_lc, co_some, lc_some, wipe_nil, wipe_cons, end_rt, end_nx, pt_none, pt_some, int_some, e_cut, cut_l, cut_t, e_app, e_sRng, pad_0, sl_f, sl_t, sl_nil, add_i, sub_i, lt_i, le_i, gt_i, ge_i, neg_i, not_d, len_l, len_t, ix_l, ix_t, max2_i, min2_i, tup_l, tup_t, lst_l, lst_t, rev_l, rev_t, bool_i, bool_b, int_b, isn_n, e_chain, e_par, e_m3, List.length_cons, List.length_nil, List.replicate, List.cons_append, List.nil_append, Option.map_some, Nat.reduceAdd, Nat.reduceSub, Nat.zero_add, if_true, if_false, ite_true, ite_false, Bool.false_eq_true, reduceCtorEq, decide_true, decide_false, not_true, not_false_iff, Bool.not_true, Bool.not_false, Bool.and_true, Bool.true_and, Bool.and_false, Bool.false_and, Bool.or_true, Bool.true_or, Bool.or_false, Bool.false_or, B2, Mi.B_law_2, hf], .val (.str u), t9', t10', rfl⟩
  refine ⟨.val (nums row), .val c.d, .val (nums more), .val (.list (stL (ssort (nms c)))), .val (lowD p q), .val (.int 1000000), t8, t9, t10, ?_⟩
  simp only [nums] at e1' e2' hc' hld hf ⊢
  simp only [e_run, e_seq, seq_nx, seq_rt, seq_none, e_skip, e_set, e_own, nxK_some, vK_some, oK_some, e_ret, rtK_some, e_if, ifK_some, e_fVar, e_bVar, va_val, vb_val, vb_own, vb_bor, at_0, at_S, set_0, set_S, e_K, e_f1, o1_some, e_f2, o2_some, e_and, and_t, and_f, and_b, e_or, or_b, e_tOf, to_b, e_tAnd, tand_b, e_tOr, tor_b, e_tNot, not_b, e_tYes, e_fIf, fif_b, e_nil, e_cons, cons_some, e_tup, tup_some, e_lst, lst_some, e_call, call_some, e_m1, e_m2, e_sSeq, seqs_l, seqs_t, seqs_s, e_for, for_some, e_asg, tg_some, e_gN, e_gT2, e_gT3, e_frz, frz_own, e_retOwn, ch_b, e_lc, co_some, lc_some, wipe_nil, wipe_cons, end_rt, end_nx, pt_none, pt_some, int_some, e_cut, cut_l, cut_t, e_app, e_sRng, pad_0, sl_f, sl_t, sl_nil, add_i, sub_i, lt_i, le_i, gt_i, ge_i, neg_i, not_d, len_l, len_t, ix_l, ix_t, max2_i, min2_i, tup_l, tup_t, lst_l, lst_t, rev_l, rev_t, bool_i, bool_b, int_b, isn_n, e_chain, e_par, e_m3, List.length_cons, List.length_nil, List.replicate, List.cons_append, List.nil_append, Option.map_some, Nat.reduceAdd, Nat.reduceSub, Nat.zero_add, if_true, if_false, ite_true, ite_false, Bool.false_eq_true, reduceCtorEq, decide_true, decide_false, not_true, not_false_iff, Bool.not_true, Bool.not_false, Bool.and_true, Bool.true_and, Bool.and_false, Bool.false_and, Bool.or_true, Bool.true_or, Bool.or_false, Bool.false_or, B3, Mi.B_law_3, e1', e2', hc', hnm, hst, hm3, ix_0, hd, hmo, hpk, hld, hpw, hf]
/-! ### the written cords -/
theorem low_rel {p q : Int} (h : Int.gcd p q = 1) : lowD p q = ldD p q := by
  unfold lowD
  rw [h]
  simp
def cA : Cd := .one "a" 5
theorem cA_fit : Fit cA := ⟨trivial, by decide, by decide⟩
def cB : Cd := .tie [.one "a" 1, .one "b" 3]
theorem cB_fit : Fit cB := ⟨by simp [cB, Cd.ok, Cd.oks], by decide, by decide⟩
abbrev sA : Str := "a"
abbrev sB : Str := "b"
/-- the least one, told by two trials -/
theorem least_is {c : Cd} {p q : Int} (h : Fit c) (hp : 0 ≤ p) (hq : 0 < q) (hb : q < 10000) (h0 : ∀ s ∈ c.ss, 0 ≤ s.2) (u x : Str) (hx : x ∈ nms c) (hpB : p ≤ 10000 * q) (n : Int) (hn : 1 < n) (d1 : doesB p q c u x n = true) (d2 : doesB p q c u x (n - 1) = false) : Mi.m_least_of [c.d, lowD p q, .str u, .str x] = some (.int n) := by
  rcases least_ok h hp hq hb h0 u x hx 10000 (by decide) hpB (by decide) with ⟨e1, e2⟩ | ⟨m, e1, e2, e3, e4, e5⟩
  · rw [e2 n (by omega)] at d1; cases d1
  · rw [e1]
    have h1 : ¬ m ≤ n - 1 := fun g => by
      rw [does_mono h hp hq h0 hx (show 0 ≤ m by omega) g e4] at d2
      cases d2
    have h2 : ¬ n < m := fun g => by
      have := e5 (by omega)
      rw [does_mono h hp hq h0 hx (show 0 ≤ n by omega) (show n ≤ m - 1 by omega) d1] at this
      cases this
    rw [show m = n by omega]
theorem law_true (ns : List Int) (_ : ns.length ≤ 63) : Mi.m_law [nums ns] = some (.bool true) := by
  obtain ⟨ρ', hf, t1, t2, t3, t4, t5, t6, t7, t8, t9, t10, rfl⟩ := forL_keep (tg := gN 1) (body := B3) (ds := [.int 0, .int 2, .int 4, .int 6])
    (ρ := [.val (nums ns), .no, .no, .no, .no, .no, .no, .no, .no, .no, .no])
    (I := fun ρ => ∃ t1 t2 t3 t4 t5 t6 t7 t8 t9 t10, ρ = [.val (nums ns), t1, t2, t3, t4, t5, t6, t7, t8, t9, t10]) ⟨_, _, _, _, _, _, _, _, _, _, rfl⟩
    fun d ρ hd ⟨t1, t2, t3, t4, t5, t6, t7, t8, t9, t10, e⟩ => by
      subst e
      obtain ⟨k, hk, rfl⟩ : ∃ k : Nat, k ≤ 6 ∧ d = .int (k : Nat) := by
        simp only [List.mem_cons, List.not_mem_nil, or_false] at hd
        rcases hd with rfl | rfl | rfl | rfl
        · exact ⟨0, by decide, rfl⟩
        · exact ⟨2, by decide, rfl⟩
        · exact ⟨4, by decide, rfl⟩
        · exact ⟨6, by decide, rfl⟩
      obtain ⟨u2, u3, u4, u5, u6, u7, u8, u9, u10, hs⟩ := round_ok ns k hk (s2 := t2) (s3 := t3) (s4 := t4) (s5 := t5) (s6 := t6) (s7 := t7) (s8 := t8) (s9 := t9) (s10 := t10)
      exact ⟨_, _, rfl, hs, _, _, _, _, _, _, _, _, _, _, rfl⟩
  have h1 := least_is (c := cA) (p := 7) (q := 2) cA_fit (by decide) (by decide) (by decide) (by decide) sA sA (by decide) (by decide) 4 (by decide) (by decide) (by decide)
  have h2 := least_is (c := cB) (p := 4) (q := 1) cB_fit (by decide) (by decide) (by decide) (by decide) sA sB (by decide) (by decide) 2 (by decide) (by decide) (by decide)
  have h3 : Mi.m_least_of [cB.d, lowD 7 1, .str sA, .str sB] = some .none := by
    rcases least_ok (c := cB) (p := 7) (q := 1) cB_fit (by decide) (by decide) (by decide) (by decide) sA sB (by decide) 10000 (by decide) (by decide) (by decide) with ⟨e1, _⟩ | ⟨m, _, e2, _, e4, _⟩
    · exact e1
    · exfalso
      have := does_far (c := cB) (p := 7) (q := 1) cB_fit (by decide) (by decide) (by decide) (u := sA) (x := sB) (by decide) (m := 7) (by decide) (by decide) e4
      revert this
      decide
  rw [low_rel (by decide)] at h1 h2 h3
  have a1 : cA.d = .tuple [.str "a", .int 5] := rfl
  have a2 : cB.d = .tuple [.tuple [.str "a", .int 1], .tuple [.str "b", .int 3]] := rfl
  rw [a1] at h1
  rw [a2] at h2 h3
  simp only [ldD] at h1 h2 h3
  have m1 := ne_self (d := .int 4) rfl (by decide)
  have m2 := eq_self (d := .int 2) rfl (by decide)
  have m4 : isNoneD .none = some (.bool true) := rfl
  simp only [e_run, e_seq, seq_nx, seq_rt, seq_none, e_skip, e_set, e_own, nxK_some, vK_some, oK_some, e_ret, rtK_some, e_if, ifK_some, e_fVar, e_bVar, va_val, vb_val, vb_own, vb_bor, at_0, at_S, set_0, set_S, e_K, e_f1, o1_some, e_f2, o2_some, e_and, and_t, and_f, and_b, e_or, or_b, e_tOf, to_b, e_tAnd, tand_b, e_tOr, tor_b, e_tNot, not_b, e_tYes, e_fIf, fif_b, e_nil, e_cons, cons_some, e_tup, tup_some, e_lst, lst_some, e_call, call_some, e_m1, e_m2, e_sSeq, seqs_l, seqs_t, seqs_s, e_for, for_some, e_asg, tg_some, e_gN, e_gT2, e_gT3, e_frz, frz_own, e_retOwn, ch_b, e_lc, co_some, lc_some, wipe_nil, wipe_cons, end_rt, end_nx, pt_none, pt_some, int_some, e_cut, cut_l, cut_t, e_app, e_sRng, pad_0, sl_f, sl_t, sl_nil, add_i, sub_i, lt_i, le_i, gt_i, ge_i, neg_i, not_d, len_l, len_t, ix_l, ix_t, max2_i, min2_i, tup_l, tup_t, lst_l, lst_t, rev_l, rev_t, bool_i, bool_b, int_b, isn_n, e_chain, e_par, e_m3, List.length_cons, List.length_nil, List.replicate, List.cons_append, List.nil_append, Option.map_some, Nat.reduceAdd, Nat.reduceSub, Nat.zero_add, if_true, if_false, ite_true, ite_false, Bool.false_eq_true, reduceCtorEq, decide_true, decide_false, not_true, not_false_iff, Bool.not_true, Bool.not_false, Bool.and_true, Bool.true_and, Bool.and_false, Bool.false_and, Bool.or_true, Bool.true_or, Bool.or_false, Bool.false_or, Mi.m_law, Mi.G_law, hf, h1, h2, h3, m1, m2, m4]
end Fact
set_option maxRecDepth 100000
set_option maxHeartbeats 4000000
/-! Walks of the defs of k09, printed by gen.py. -/
namespace Wk
open PySem PySem.Spec PyProof.Rows L2 Pu Mi
def st (i : Nat) : Stmt := PySem.Challenge.pw_sharecords_k09_unknown_strands.main.body.getD i (.Pass ⟨0, 0, 0, 0⟩)
variable {P : Program} {w : World} {K : PySem.W.Frag} {mg : Str → Option Value} {base : Heap}
theorem sc_is_one : FnScope ["cord"] ["cord"] (defScope (st 1)) := ⟨rfl, rfl, rfl, by decide +kernel, rfl, by decide +kernel, by decide +kernel⟩
theorem w_is_one {k : Nat} (D : Df K mg "is_one" (st 1) ["cord"]) (B : Bi mg) : Ok P w K mg base "is_one" (k + 1) ["cord"] false [false] (runQ false 1 [false] (G_is_one)) := by
  refine ok_of (N := ["cord"]) D sc_is_one rfl fun f cdv A outer s H E hr => ?_
  have sc := sc_is_one
  exact s_one (s_ret (x_isi (tn := "str") (by rfl) B.isinstance (by rfl) B.str (by decide +kernel) kit_str (PX.toB (x_ix hr.units (b_var 0) (PX.toB (x_int))))))
theorem sc_changed : FnScope ["cord", "strengths", "part"] ["cord", "strengths"] (defScope (st 2)) := ⟨rfl, rfl, rfl, by decide +kernel, rfl, by decide +kernel, by decide +kernel⟩
theorem w_changed {k : Nat} {m_is_one : Fn} {m_changed : Fn} (D : Df K mg "changed" (st 2) ["cord", "strengths"]) (B : Bi mg) (o_is_one : Ok P w K mg base "is_one" k ["cord"] false [false] m_is_one) (o_changed : Ok P w K mg base "changed" k ["cord", "strengths"] false [false, false] m_changed) : Ok P w K mg base "changed" (k + 1) ["cord", "strengths"] false [false, false] (runQ false 3 [false, false] (G_changed m_is_one m_changed)) := by
  refine ok_of (N := ["cord", "strengths", "part"]) D sc_changed rfl fun f cdv A outer s H E hr => ?_
  have sc := sc_changed
  exact s_cons (s_if (t_val (o_call o_is_one hr (by rfl) (ar_val (x_var 0) (ar_nil)))) (s_one (s_ret (x_tup (ar_val (x_ix hr.units (b_var 0) (PX.toB (x_int))) (ar_val (x_get hr.units (b_var 1) (x_ix hr.units (b_var 0) (PX.toB (x_int))) (x_ix hr.units (b_var 0) (PX.toB (x_int)))) (ar_nil)))))) (s_nil)) (s_one (s_ret (x_tupleC (by rfl) B.tuple (PX.toB (x_lc (own := [("part", 2)]) rfl sc.nd (IX.br (i_seq (x_var 0))) (by first | exact blkOk_by (N := ["cord", "strengths", "part"]) (sc := defScope (st 2)) (by decide +kernel) | exact blkOk_by (by kernel_rfl)) (fun _ _ _ _ _ => pg_name (i := 2) sc.nd (by rfl) (by first | exact Or.inl rfl | exact Or.inr rfl)) (tg_name _ (i := 2) (by decide)) (fun _ _ _ _ _ => if_nil) (fun _ _ _ _ _ => o_call o_changed hr (by rfl) (ar_val (x_var 2) (ar_val (x_var 1) (ar_nil)))))))))
theorem r_changed (D : Df K mg "changed" (st 2) ["cord", "strengths"]) (B : Bi mg) {q : Nat} (o_is_one : Ok P w K mg base "is_one" q ["cord"] false [false] m_is_one) : ∀ n, Ok P w K mg base "changed" (q + n) ["cord", "strengths"] false [false, false] (mf_changed n)
  | 0 => ok_none D
  | n + 1 => w_changed D B (o_is_one.mono (Nat.le_add_right _ _)) (r_changed D B o_is_one n)
theorem sc_parted_by : FnScope ["load", "many", "one", "other", "top", "bottom"] ["load", "many"] (defScope (st 4)) := ⟨rfl, rfl, rfl, by decide +kernel, rfl, by decide +kernel, by decide +kernel⟩
theorem w_parted_by {k : Nat} (D : Df K mg "parted_by" (st 4) ["load", "many"]) (B : Bi mg) : Ok P w K mg base "parted_by" (k + 1) ["load", "many"] false [false, false] (runQ false 6 [false, false] (G_parted_by)) := by
  refine ok_of (N := ["load", "many", "one", "other", "top", "bottom"]) D sc_parted_by rfl fun f cdv A outer s H E hr => ?_
  have sc := sc_parted_by
  exact s_cons (s_parVV (i := 2) (j := 3) rfl sc.nd (by rfl) (by rfl) (by decide) rfl rfl (x_ix hr.units (b_var 0) (PX.toB (x_int))) (x_mul (PX.toB (x_ix hr.units (b_var 0) (PX.toB (x_int)))) (b_var 1)) (by rfl)) (s_cons (s_parVV (i := 4) (j := 5) rfl sc.nd (by rfl) (by rfl) (by decide) rfl rfl (x_var 2) (x_var 3) (by rfl)) (s_cons (s_while PassesOwn.never (t_gt (b_var 3) (PX.toB (x_int))) (s_one (s_parVV (i := 2) (j := 3) rfl sc.nd (by rfl) (by rfl) (by decide) rfl rfl (x_var 3) (x_mod (b_var 2) (b_var 3)) (by rfl)))) (s_one (s_ret (x_tup (ar_val (x_div (b_var 4) (b_var 2)) (ar_val (x_div (b_var 5) (b_var 2)) (ar_nil))))))))
theorem sc_greatest : FnScope ["cord", "some", "part", "k", "one"] ["cord"] (defScope (st 5)) := ⟨rfl, rfl, rfl, by decide +kernel, rfl, by decide +kernel, by decide +kernel⟩
theorem w_greatest {k : Nat} {m_is_one : Fn} {m_greatest : Fn} (D : Df K mg "greatest" (st 5) ["cord"]) (B : Bi mg) (o_is_one : Ok P w K mg base "is_one" k ["cord"] false [false] m_is_one) (o_greatest : Ok P w K mg base "greatest" k ["cord"] false [false] m_greatest) : Ok P w K mg base "greatest" (k + 1) ["cord"] false [false] (runQ false 5 [false] (G_greatest m_is_one m_greatest)) := by
  refine ok_of (N := ["cord", "some", "part", "k", "one"]) D sc_greatest rfl fun f cdv A outer s H E hr => ?_
  have sc := sc_greatest
  exact s_cons (s_if (t_val (o_call o_is_one hr (by rfl) (ar_val (x_var 0) (ar_nil)))) (s_one (s_ret (x_ix hr.units (b_var 0) (PX.toB (x_int))))) (s_nil)) (s_cons (s_set (i := 1) sc.nd (by rfl) (by first | exact Or.inl rfl | exact Or.inr rfl) (x_rev (PX.toB (x_sorted rfl hr.units (by rfl) B.sorted (PX.toB (x_lc (own := [("part", 2)]) rfl sc.nd (IX.br (i_seq (x_var 0))) (by first | exact blkOk_by (N := ["cord", "some", "part", "k", "one"]) (sc := defScope (st 5)) (by decide +kernel) | exact blkOk_by (by kernel_rfl)) (fun _ _ _ _ _ => pg_name (i := 2) sc.nd (by rfl) (by first | exact Or.inl rfl | exact Or.inr rfl)) (tg_name _ (i := 2) (by decide)) (fun _ _ _ _ _ => if_nil) (fun _ _ _ _ _ => o_call o_greatest hr (by rfl) (ar_val (x_var 2) (ar_nil))))))))) (s_one (s_ret (x_max rfl (by rfl) B.max (PX.toB (x_lc (own := [("k", 3), ("one", 4)]) rfl sc.nd (IX.br (i_enum (by rfl) B.enumerate (x_var 1))) (by first | exact blkOk_by (N := ["cord", "some", "part", "k", "one"]) (sc := defScope (st 5)) (by decide +kernel) | exact blkOk_by (by kernel_rfl)) (fun _ _ _ _ _ => pg_tup rfl (pgs_cons (pg_name (i := 3) sc.nd (by rfl) (by first | exact Or.inl rfl | exact Or.inr rfl)) (pgs_cons (pg_name (i := 4) sc.nd (by rfl) (by first | exact Or.inl rfl | exact Or.inr rfl)) (pgs_nil)))) (tg_two _ (i := 3) (j := 4) (by decide) (by decide)) (fun _ _ _ _ _ => if_nil) (fun _ _ _ _ _ => x_mul (PX.toB (x_add (b_var 3) (PX.toB (x_int)))) (b_var 4))))))))
theorem r_greatest (D : Df K mg "greatest" (st 5) ["cord"]) (B : Bi mg) {q : Nat} (o_is_one : Ok P w K mg base "is_one" q ["cord"] false [false] m_is_one) : ∀ n, Ok P w K mg base "greatest" (q + n) ["cord"] false [false] (mf_greatest n)
  | 0 => ok_none D
  | n + 1 => w_greatest D B (o_is_one.mono (Nat.le_add_right _ _)) (r_greatest D B o_is_one n)
theorem sc_shares : FnScope ["cord", "load", "some", "part", "good", "k", "one", "found"] ["cord", "load"] (defScope (st 6)) := ⟨rfl, rfl, rfl, by decide +kernel, rfl, by decide +kernel, by decide +kernel⟩
theorem w_shares {k : Nat} {m_is_one : Fn} {m_greatest : Fn} {m_parted_by : Fn} {m_shares : Fn} (D : Df K mg "shares" (st 6) ["cord", "load"]) (B : Bi mg) (o_is_one : Ok P w K mg base "is_one" k ["cord"] false [false] m_is_one) (o_greatest : Ok P w K mg base "greatest" k ["cord"] false [false] m_greatest) (o_parted_by : Ok P w K mg base "parted_by" k ["load", "many"] false [false, false] m_parted_by) (o_shares : Ok P w K mg base "shares" k ["cord", "load"] false [false, false] m_shares) : Ok P w K mg base "shares" (k + 1) ["cord", "load"] false [false, false] (runQ false 8 [false, false] (G_shares m_is_one m_greatest m_parted_by m_shares)) := by
  refine ok_of (N := ["cord", "load", "some", "part", "good", "k", "one", "found"]) D sc_shares rfl fun f cdv A outer s H E hr => ?_
  have sc := sc_shares
  exact s_cons (s_if (t_val (o_call o_is_one hr (by rfl) (ar_val (x_var 0) (ar_nil)))) (s_one (s_ret (x_if (t_le (PX.toB (x_ix hr.units (b_var 1) (PX.toB (x_int)))) (PX.toB (x_mul (PX.toB (x_ix hr.units (b_var 0) (PX.toB (x_int)))) (PX.toB (x_ix hr.units (b_var 1) (PX.toB (x_int))))))) (PF.toX (f_dict1 (x_ix hr.units (b_var 0) (PX.toB (x_int))) (x_var 1))) (PF.toX (f_dict0))))) (s_nil)) (s_cons (s_set (i := 2) sc.nd (by rfl) (by first | exact Or.inl rfl | exact Or.inr rfl) (x_rev (PX.toB (x_sorted rfl hr.units (by rfl) B.sorted (PX.toB (x_lc (own := [("part", 3)]) rfl sc.nd (IX.br (i_seq (x_var 0))) (by first | exact blkOk_by (N := ["cord", "load", "some", "part", "good", "k", "one", "found"]) (sc := defScope (st 6)) (by decide +kernel) | exact blkOk_by (by kernel_rfl)) (fun _ _ _ _ _ => pg_name (i := 3) sc.nd (by rfl) (by first | exact Or.inl rfl | exact Or.inr rfl)) (tg_name _ (i := 3) (by decide)) (fun _ _ _ _ _ => if_nil) (fun _ _ _ _ _ => o_call o_greatest hr (by rfl) (ar_val (x_var 3) (ar_nil))))))))) (s_cons (s_setLc (i := 4) (own := [("k", 5), ("one", 6)]) rfl sc.nd (by rfl) rfl (sw_true rfl rfl rfl (by decide +kernel)) (IX.br (i_enum (by rfl) B.enumerate (x_var 2))) (by first | exact blkOk_by (N := ["cord", "load", "some", "part", "good", "k", "one", "found"]) (sc := defScope (st 6)) (by decide +kernel) | exact blkOk_by (by kernel_rfl)) (fun _ _ _ _ _ => pg_tup rfl (pgs_cons (pg_name (i := 5) sc.nd (by rfl) (by first | exact Or.inl rfl | exact Or.inr rfl)) (pgs_cons (pg_name (i := 6) sc.nd (by rfl) (by first | exact Or.inl rfl | exact Or.inr rfl)) (pgs_nil)))) (tg_two _ (i := 5) (j := 6) (by decide) (by decide)) (fun _ _ _ _ _ => if_one (t_le (PX.toB (x_ix hr.units (b_var 1) (PX.toB (x_int)))) (PX.toB (x_mul (PX.toB (x_mul (PX.toB (x_add (b_var 5) (PX.toB (x_int)))) (b_var 6))) (PX.toB (x_ix hr.units (b_var 1) (PX.toB (x_int)))))))) (fun _ _ _ _ _ => x_add (b_var 5) (PX.toB (x_int)))) (s_cons (s_own (i := 7) sc.nd (by rfl) (by first | exact Or.inl rfl | exact Or.inr rfl) (f_dict0)) (s_cons (s_for (is := [3]) PassesOwn.never rfl (i_seq (x_var 0)) (pg_name (i := 3) sc.nd (by rfl) (by first | exact Or.inl rfl | exact Or.inr rfl)) (tg_name _ (i := 3) (by decide)) (s_one (s_if (t_ne hr.units (b_var 4) (PX.toB (x_lst (ar_nil)))) (s_one (s_upd 7 (o_call o_shares hr (by rfl) (ar_val (x_var 3) (ar_val (o_call o_parted_by hr (by rfl) (ar_val (x_var 1) (ar_val (x_ix hr.units (b_var 4) (PX.toB (x_neg (PX.toB (x_int))))) (ar_nil)))) (ar_nil)))))) (s_nil)))) (s_one (s_frz 7 (s_ret (x_var 7))))))))
theorem r_shares (D : Df K mg "shares" (st 6) ["cord", "load"]) (B : Bi mg) {q : Nat} (o_is_one : Ok P w K mg base "is_one" q ["cord"] false [false] m_is_one) (o_greatest : Ok P w K mg base "greatest" q ["cord"] false [false] m_greatest) (o_parted_by : Ok P w K mg base "parted_by" q ["load", "many"] false [false, false] m_parted_by) : ∀ n, Ok P w K mg base "shares" (q + n) ["cord", "load"] false [false, false] (mf_shares n)
  | 0 => ok_none D
  | n + 1 => w_shares D B (o_is_one.mono (Nat.le_add_right _ _)) (o_greatest.mono (Nat.le_add_right _ _)) (o_parted_by.mono (Nat.le_add_right _ _)) (r_shares D B o_is_one o_greatest o_parted_by n)
theorem sc_holding : FnScope ["cord", "load"] ["cord", "load"] (defScope (st 7)) := ⟨rfl, rfl, rfl, by decide +kernel, rfl, by decide +kernel, by decide +kernel⟩
theorem w_holding {k : Nat} {m_shares : Fn} (D : Df K mg "holding" (st 7) ["cord", "load"]) (B : Bi mg) (o_shares : Ok P w K mg base "shares" k ["cord", "load"] false [false, false] m_shares) : Ok P w K mg base "holding" (k + 1) ["cord", "load"] false [false, false] (runQ false 2 [false, false] (G_holding m_shares)) := by
  refine ok_of (N := ["cord", "load"]) D sc_holding rfl fun f cdv A outer s H E hr => ?_
  have sc := sc_holding
  exact s_one (s_ret (x_tupleC (by rfl) B.tuple (PX.toB (x_sorted rfl hr.units (by rfl) B.sorted (PX.toB (o_call o_shares hr (by rfl) (ar_val (x_var 0) (ar_val (x_var 1) (ar_nil)))))))))
theorem sc_does : FnScope ["cord", "load", "unknown", "name", "most"] ["cord", "load", "unknown", "name", "most"] (defScope (st 9)) := ⟨rfl, rfl, rfl, by decide +kernel, rfl, by decide +kernel, by decide +kernel⟩
theorem w_does {k : Nat} {m_changed : Fn} {m_holding : Fn} (D : Df K mg "does" (st 9) ["cord", "load", "unknown", "name", "most"]) (B : Bi mg) (o_changed : Ok P w K mg base "changed" k ["cord", "strengths"] false [false, false] m_changed) (o_holding : Ok P w K mg base "holding" k ["cord", "load"] false [false, false] m_holding) : Ok P w K mg base "does" (k + 1) ["cord", "load", "unknown", "name", "most"] false [false, false, false, false, false] (runQ false 5 [false, false, false, false, false] (G_does m_changed m_holding)) := by
  refine ok_of (N := ["cord", "load", "unknown", "name", "most"]) D sc_does rfl fun f cdv A outer s H E hr => ?_
  have sc := sc_does
  exact s_one (s_ret (x_in (hr65 hr) (b_var 3) (PX.toB (o_call o_holding hr (by rfl) (ar_val (o_call o_changed hr (by rfl) (ar_val (x_var 0) (ar_val (PF.toX (f_dict1 (x_var 2) (x_var 4))) (ar_nil)))) (ar_val (x_var 1) (ar_nil)))))))
theorem sc_least_of : FnScope ["cord", "load", "unknown", "name", "low", "high", "middle"] ["cord", "load", "unknown", "name"] (defScope (st 10)) := ⟨rfl, rfl, rfl, by decide +kernel, rfl, by decide +kernel, by decide +kernel⟩
theorem w_least_of {k : Nat} {m_does : Fn} (D : Df K mg "least_of" (st 10) ["cord", "load", "unknown", "name"]) (B : Bi mg) (o_does : Ok P w K mg base "does" k ["cord", "load", "unknown", "name", "most"] false [false, false, false, false, false] m_does) : Ok P w K mg base "least_of" (k + 1) ["cord", "load", "unknown", "name"] false [false, false, false, false] (runQ false 7 [false, false, false, false] (G_least_of m_does)) := by
  refine ok_of (N := ["cord", "load", "unknown", "name", "low", "high", "middle"]) D sc_least_of rfl fun f cdv A outer s H E hr => ?_
  have sc := sc_least_of
  exact s_cons (s_parVV (i := 4) (j := 5) rfl sc.nd (by rfl) (by rfl) (by decide) rfl rfl (x_int) (x_max2 rfl (by rfl) B.max (PX.toB (x_int)) (PX.toB (x_sub (PX.toB (x_int)) (PX.toB (x_div (PX.toB (x_sub (PX.toB (x_int)) (PX.toB (x_ix hr.units (b_var 1) (PX.toB (x_int)))))) (PX.toB (x_ix hr.units (b_var 1) (PX.toB (x_int))))))))) (by rfl)) (s_cons (s_if (t_not (t_val (o_call o_does hr (by rfl) (ar_val (x_var 0) (ar_val (x_var 1) (ar_val (x_var 2) (ar_val (x_var 3) (ar_val (x_var 5) (ar_nil))))))))) (s_one (s_ret (x_non))) (s_nil)) (s_cons (s_while PassesOwn.never (t_lt (b_var 4) (b_var 5)) (s_cons (s_set (i := 6) sc.nd (by rfl) (by first | exact Or.inl rfl | exact Or.inr rfl) (x_div (PX.toB (x_add (b_var 4) (b_var 5))) (PX.toB (x_int)))) (s_one (s_if (t_val (o_call o_does hr (by rfl) (ar_val (x_var 0) (ar_val (x_var 1) (ar_val (x_var 2) (ar_val (x_var 3) (ar_val (x_var 6) (ar_nil)))))))) (s_one (s_set (i := 5) sc.nd (by rfl) (by first | exact Or.inl rfl | exact Or.inr rfl) (x_var 6))) (s_one (s_set (i := 4) sc.nd (by rfl) (by first | exact Or.inl rfl | exact Or.inr rfl) (x_add (b_var 6) (PX.toB (x_int))))))))) (s_one (s_ret (x_var 4)))))
theorem sc_strength : FnScope ["cord"] ["cord"] (defScope (st 12)) := ⟨rfl, rfl, rfl, by decide +kernel, rfl, by decide +kernel, by decide +kernel⟩
theorem w_strength {k : Nat} {m_greatest : Fn} (D : Df K mg "strength" (st 12) ["cord"]) (B : Bi mg) (o_greatest : Ok P w K mg base "greatest" k ["cord"] false [false] m_greatest) : Ok P w K mg base "strength" (k + 1) ["cord"] false [false] (runQ false 1 [false] (G_strength m_greatest)) := by
  refine ok_of (N := ["cord"]) D sc_strength rfl fun f cdv A outer s H E hr => ?_
  have sc := sc_strength
  exact s_one (s_ret (o_call o_greatest hr (by rfl) (ar_val (x_var 0) (ar_nil))))
theorem sc_law_cell : FnScope ["script", "k"] ["script", "k"] (defScope (st 14)) := ⟨rfl, rfl, rfl, by decide +kernel, rfl, by decide +kernel, by decide +kernel⟩
theorem w_law_cell {k : Nat} (D : Df K mg "_law_cell" (st 14) ["script", "k"]) (B : Bi mg) : Ok P w K mg base "_law_cell" (k + 1) ["script", "k"] false [false, false] (runQ false 2 [false, false] (G_law_cell)) := by
  refine ok_of (N := ["script", "k"]) D sc_law_cell rfl fun f cdv A outer s H E hr => ?_
  have sc := sc_law_cell
  exact s_cons (s_if (t_lt (b_var 1) (PX.toB (x_len (by rfl) B.len (b_var 0)))) (s_one (s_ret (x_ix hr.units (b_var 0) (b_var 1)))) (s_nil)) (s_cons (s_if (t_eq hr.units (PX.toB (x_len (by rfl) B.len (b_var 0))) (PX.toB (x_int))) (s_one (s_ret (x_add (PX.toB (x_mul (PX.toB (x_int)) (b_var 1))) (PX.toB (x_int))))) (s_nil)) (s_one (s_ret (x_add (PX.toB (x_mod (PX.toB (x_ix hr.units (b_var 0) (PX.toB (x_mod (b_var 1) (PX.toB (x_len (by rfl) B.len (b_var 0))))))) (PX.toB (x_int)))) (PX.toB (x_mul (PX.toB (x_int)) (b_var 1)))))))
theorem sc_law_draws : FnScope ["script", "k", "many", "base", "primes", "cell", "rest", "row", "j", "mash"] ["script", "k", "many", "base"] (defScope (st 15)) := ⟨rfl, rfl, rfl, by decide +kernel, rfl, by decide +kernel, by decide +kernel⟩
theorem w_law_draws {k : Nat} {m_law_cell : Fn} (D : Df K mg "_law_draws" (st 15) ["script", "k", "many", "base"]) (B : Bi mg) (o_law_cell : Ok P w K mg base "_law_cell" k ["script", "k"] false [false, false] m_law_cell) : Ok P w K mg base "_law_draws" (k + 1) ["script", "k", "many", "base"] false [false, false, false, false] (runQ false 10 [false, false, false, false] (G_law_draws m_law_cell)) := by
  refine ok_of (N := ["script", "k", "many", "base", "primes", "cell", "rest", "row", "j", "mash"]) D sc_law_draws rfl fun f cdv A outer s H E hr => ?_
  have sc := sc_law_draws
  exact s_cons (s_set (i := 4) sc.nd (by rfl) (by first | exact Or.inl rfl | exact Or.inr rfl) (x_tup (ar_val (x_int) (ar_val (x_int) (ar_val (x_int) (ar_val (x_int) (ar_val (x_int) (ar_val (x_int) (ar_val (x_int) (ar_val (x_int) (ar_nil))))))))))) (s_cons (s_set (i := 5) sc.nd (by rfl) (by first | exact Or.inl rfl | exact Or.inr rfl) (o_call o_law_cell hr (by rfl) (ar_val (x_var 0) (ar_val (x_var 1) (ar_nil))))) (s_cons (s_set (i := 6) sc.nd (by rfl) (by first | exact Or.inl rfl | exact Or.inr rfl) (x_int)) (s_cons (s_if (t_ge (b_var 5) (PX.toB (x_pow (PX.toB (x_int)) (PX.toB (x_int))))) (s_one (s_set (i := 6) sc.nd (by rfl) (by first | exact Or.inl rfl | exact Or.inr rfl) (x_var 5))) (s_nil)) (s_cons (s_own (i := 7) sc.nd (by rfl) (by first | exact Or.inl rfl | exact Or.inr rfl) (f_lst (ar_nil))) (s_cons (s_for (is := [8]) PassesOwn.never rfl (i_rng (by rfl) B.range (x_var 2)) (pg_name (i := 8) sc.nd (by rfl) (by first | exact Or.inl rfl | exact Or.inr rfl)) (tg_name _ (i := 8) (by decide)) (s_cons (s_set (i := 9) sc.nd (by rfl) (by first | exact Or.inl rfl | exact Or.inr rfl) (x_mul (PX.toB (x_mod (b_var 5) (PX.toB (x_ix hr.units (b_var 4) (PX.toB (x_mod (b_var 8) (PX.toB (x_int)))))))) (PX.toB (x_add (PX.toB (x_int)) (PX.toB (x_mul (PX.toB (x_mul (PX.toB (x_int)) (b_var 8))) (b_var 8))))))) (s_cons (s_set (i := 9) sc.nd (by rfl) (by first | exact Or.inl rfl | exact Or.inr rfl) (x_add (PX.toB (x_add (b_var 9) (PX.toB (x_mul (PX.toB (x_mul (PX.toB (x_int)) (PX.toB (x_add (b_var 8) (PX.toB (x_int)))))) (PX.toB (x_add (b_var 8) (PX.toB (x_int)))))))) (PX.toB (x_mul (PX.toB (x_int)) (b_var 1))))) (s_cons (s_set (i := 9) sc.nd (by rfl) (by first | exact Or.inl rfl | exact Or.inr rfl) (x_mod (b_var 9) (PX.toB (x_ix hr.units (b_var 4) (PX.toB (x_mod (PX.toB (x_add (PX.toB (x_mul (PX.toB (x_int)) (b_var 8))) (b_var 1))) (PX.toB (x_int)))))))) (s_cons (s_set (i := 9) sc.nd (by rfl) (by first | exact Or.inl rfl | exact Or.inr rfl) (x_mod (PX.toB (x_mul (PX.toB (x_mul (b_var 9) (b_var 9))) (b_var 9))) (PX.toB (x_ix hr.units (b_var 4) (PX.toB (x_mod (PX.toB (x_add (b_var 8) (PX.toB (x_int)))) (PX.toB (x_int)))))))) (s_cons (s_if (t_gt (b_var 6) (PX.toB (x_int))) (s_one (s_set (i := 9) sc.nd (by rfl) (by first | exact Or.inl rfl | exact Or.inr rfl) (x_var 6))) (s_nil)) (s_cons (s_app 7 (x_mod (b_var 9) (b_var 3))) (s_one (s_set (i := 6) sc.nd (by rfl) (by first | exact Or.inl rfl | exact Or.inr rfl) (x_div (b_var 6) (b_var 3))))))))))) (s_one (s_frz 7 (s_ret (x_var 7)))))))))
theorem sc_law_number : FnScope ["thing", "least", "most"] ["thing", "least", "most"] (defScope (st 16)) := ⟨rfl, rfl, rfl, by decide +kernel, rfl, by decide +kernel, by decide +kernel⟩
theorem w_law_number {k : Nat} (D : Df K mg "_law_number" (st 16) ["thing", "least", "most"]) (B : Bi mg) : Ok P w K mg base "_law_number" (k + 1) ["thing", "least", "most"] false [false, false, false] (runQ false 3 [false, false, false] (G_law_number)) := by
  refine ok_of (N := ["thing", "least", "most"]) D sc_law_number rfl fun f cdv A outer s H E hr => ?_
  have sc := sc_law_number
  exact s_one (s_ret (x_and (x_isi (tn := "int") (by rfl) B.isinstance (by rfl) B.int (by decide +kernel) kit_int (b_var 0)) (x_and (x_not (x_isi (tn := "bool") (by rfl) B.isinstance (by rfl) B.bool (by decide +kernel) kit_bool (b_var 0))) (x_one (x_lele (b_var 1) (b_var 0) (b_var 2))))))
theorem sc_law_tied : FnScope ["parts", "draws", "left", "at", "many", "first", "last"] ["parts", "draws"] (defScope (st 17)) := ⟨rfl, rfl, rfl, by decide +kernel, rfl, by decide +kernel, by decide +kernel⟩
theorem w_law_tied {k : Nat} (D : Df K mg "_law_tied" (st 17) ["parts", "draws"]) (B : Bi mg) : Ok P w K mg base "_law_tied" (k + 1) ["parts", "draws"] false [false, false] (runQ false 7 [false, false] (G_law_tied)) := by
  refine ok_of (N := ["parts", "draws", "left", "at", "many", "first", "last"]) D sc_law_tied rfl fun f cdv A outer s H E hr => ?_
  have sc := sc_law_tied
  exact s_cons (s_parVV (i := 2) (j := 3) rfl sc.nd (by rfl) (by rfl) (by decide) rfl rfl (x_listC (by rfl) B.list (b_var 0)) (x_int) (by rfl)) (s_cons (s_while PassesOwn.never (t_gt (PX.toB (x_len (by rfl) B.len (b_var 2))) (PX.toB (x_int))) (s_cons (s_set (i := 4) sc.nd (by rfl) (by first | exact Or.inl rfl | exact Or.inr rfl) (x_min2 rfl (by rfl) B.min (PX.toB (x_len (by rfl) B.len (b_var 2))) (PX.toB (x_add (PX.toB (x_int)) (PX.toB (x_mod (PX.toB (x_ix hr.units (b_var 1) (PX.toB (x_mod (b_var 3) (PX.toB (x_len (by rfl) B.len (b_var 1))))))) (PX.toB (x_ix hr.units (PX.toB (x_lst (ar_val (x_int) (ar_val (x_int) (ar_val (x_int) (ar_nil)))))) (PX.toB (x_mod (PX.toB (x_ix hr.units (b_var 1) (PX.toB (x_int)))) (PX.toB (x_int)))))))))))) (s_cons (s_set (i := 5) sc.nd (by rfl) (by first | exact Or.inl rfl | exact Or.inr rfl) (x_mod (PX.toB (x_ix hr.units (b_var 1) (PX.toB (x_mod (PX.toB (x_add (b_var 3) (PX.toB (x_int)))) (PX.toB (x_len (by rfl) B.len (b_var 1))))))) (PX.toB (x_add (PX.toB (x_sub (PX.toB (x_len (by rfl) B.len (b_var 2))) (b_var 4))) (PX.toB (x_int)))))) (s_cons (s_set (i := 6) sc.nd (by rfl) (by first | exact Or.inl rfl | exact Or.inr rfl) (x_add (b_var 5) (b_var 4))) (s_cons (s_set (i := 2) sc.nd (by rfl) (by first | exact Or.inl rfl | exact Or.inr rfl) (x_add (PX.toB (x_add (PX.toB (x_cut (b_var 2) (p_none) (p_some (b_var 5)))) (PX.toB (x_lst (ar_val (x_tupleC (by rfl) B.tuple (PX.toB (x_cut (b_var 2) (p_some (b_var 5)) (p_some (b_var 6))))) (ar_nil)))))) (PX.toB (x_cut (b_var 2) (p_some (b_var 6)) (p_none))))) (s_one (s_set (i := 3) sc.nd (by rfl) (by first | exact Or.inl rfl | exact Or.inr rfl) (x_add (b_var 3) (PX.toB (x_int)))))))))) (s_one (s_ret (x_ix hr.units (b_var 2) (PX.toB (x_int))))))
theorem sc_law_cord : FnScope ["draws", "most", "many", "names", "strands_so", "k", "draw", "most_so"] ["draws", "most"] (defScope (st 18)) := ⟨rfl, rfl, rfl, by decide +kernel, rfl, by decide +kernel, by decide +kernel⟩
theorem w_law_cord {k : Nat} {m_law_tied : Fn} (D : Df K mg "_law_cord" (st 18) ["draws", "most"]) (B : Bi mg) (o_law_tied : Ok P w K mg base "_law_tied" k ["parts", "draws"] false [false, false] m_law_tied) : Ok P w K mg base "_law_cord" (k + 1) ["draws", "most"] false [false, false] (runQ false 8 [false, false] (G_law_cord m_law_tied)) := by
  refine ok_of (N := ["draws", "most", "many", "names", "strands_so", "k", "draw", "most_so"]) D sc_law_cord rfl fun f cdv A outer s H E hr => ?_
  have sc := sc_law_cord
  exact s_cons (s_set (i := 2) sc.nd (by rfl) (by first | exact Or.inl rfl | exact Or.inr rfl) (x_ix hr.units (PX.toB (x_lst (ar_val (x_var 1) (ar_val (x_add (PX.toB (x_int)) (PX.toB (x_mod (PX.toB (x_div (PX.toB (x_ix hr.units (b_var 0) (PX.toB (x_int)))) (PX.toB (x_int)))) (b_var 1)))) (ar_val (x_min2 rfl (by rfl) B.min (PX.toB (x_int)) (b_var 1)) (ar_val (x_min2 rfl (by rfl) B.min (PX.toB (x_int)) (b_var 1)) (ar_nil))))))) (PX.toB (x_mod (PX.toB (x_ix hr.units (b_var 0) (PX.toB (x_int)))) (PX.toB (x_int)))))) (s_cons (s_own (i := 3) sc.nd (by rfl) (by first | exact Or.inl rfl | exact Or.inr rfl) (f_lst (ar_val (x_str) (ar_val (x_str) (ar_val (x_str) (ar_val (x_str) (ar_val (x_str) (ar_val (x_str) (ar_val (x_str) (ar_val (x_str) (ar_nil))))))))))) (s_cons (s_own (i := 4) sc.nd (by rfl) (by first | exact Or.inl rfl | exact Or.inr rfl) (f_lst (ar_nil))) (s_cons (s_for (is := [5]) PassesOwn.never rfl (i_rng (by rfl) B.range (x_var 2)) (pg_name (i := 5) sc.nd (by rfl) (by first | exact Or.inl rfl | exact Or.inr rfl)) (tg_name _ (i := 5) (by decide)) (s_cons (s_set (i := 6) sc.nd (by rfl) (by first | exact Or.inl rfl | exact Or.inr rfl) (x_ix hr.units (b_var 0) (PX.toB (x_add (PX.toB (x_int)) (b_var 5))))) (s_cons (s_set (i := 7) sc.nd (by rfl) (by first | exact Or.inl rfl | exact Or.inr rfl) (x_ix hr.units (PX.toB (x_lst (ar_val (x_add (PX.toB (x_int)) (PX.toB (x_mod (b_var 6) (PX.toB (x_int))))) (ar_val (x_add (PX.toB (x_int)) (PX.toB (x_mod (b_var 6) (PX.toB (x_int))))) (ar_val (x_ix hr.units (PX.toB (x_tup (ar_val (x_int) (ar_val (x_int) (ar_val (x_int) (ar_val (x_int) (ar_val (x_int) (ar_val (x_int) (ar_val (x_int) (ar_val (x_int) (ar_nil))))))))))) (PX.toB (x_mod (b_var 6) (PX.toB (x_int))))) (ar_val (x_add (PX.toB (x_int)) (PX.toB (x_mod (b_var 6) (PX.toB (x_int))))) (ar_nil))))))) (PX.toB (x_mod (PX.toB (x_ix hr.units (b_var 0) (PX.toB (x_int)))) (PX.toB (x_int)))))) (s_one (s_appPop 4 3 (PX.toB (x_mod (PX.toB (x_div (b_var 6) (PX.toB (x_int)))) (PX.toB (x_len (by rfl) B.len (b_var 3))))) (x_var 7)))))) (s_one (s_frz 4 (s_ret (o_call o_law_tied hr (by rfl) (ar_val (x_var 4) (ar_val (x_cut (b_var 0) (p_some (PX.toB (x_int))) (p_some (PX.toB (x_int)))) (ar_nil))))))))))
theorem sc_law_lowest : FnScope ["top", "bottom", "one", "other"] ["top", "bottom"] (defScope (st 20)) := ⟨rfl, rfl, rfl, by decide +kernel, rfl, by decide +kernel, by decide +kernel⟩
theorem w_law_lowest {k : Nat} (D : Df K mg "_law_lowest" (st 20) ["top", "bottom"]) (B : Bi mg) : Ok P w K mg base "_law_lowest" (k + 1) ["top", "bottom"] false [false, false] (runQ false 4 [false, false] (G_law_lowest)) := by
  refine ok_of (N := ["top", "bottom", "one", "other"]) D sc_law_lowest rfl fun f cdv A outer s H E hr => ?_
  have sc := sc_law_lowest
  exact s_cons (s_parVV (i := 2) (j := 3) rfl sc.nd (by rfl) (by rfl) (by decide) rfl rfl (x_var 0) (x_var 1) (by rfl)) (s_cons (s_while PassesOwn.never (t_gt (b_var 3) (PX.toB (x_int))) (s_one (s_parVV (i := 2) (j := 3) rfl sc.nd (by rfl) (by rfl) (by decide) rfl rfl (x_var 3) (x_mod (b_var 2) (b_var 3)) (by rfl)))) (s_one (s_ret (x_tup (ar_val (x_div (b_var 0) (b_var 2)) (ar_val (x_div (b_var 1) (b_var 2)) (ar_nil)))))))
theorem sc_law_load : FnScope ["draws", "most", "top", "bottom"] ["draws", "most"] (defScope (st 19)) := ⟨rfl, rfl, rfl, by decide +kernel, rfl, by decide +kernel, by decide +kernel⟩
theorem w_law_load {k : Nat} {m_law_lowest : Fn} (D : Df K mg "_law_load" (st 19) ["draws", "most"]) (B : Bi mg) (o_law_lowest : Ok P w K mg base "_law_lowest" k ["top", "bottom"] false [false, false] m_law_lowest) : Ok P w K mg base "_law_load" (k + 1) ["draws", "most"] false [false, false] (runQ false 4 [false, false] (G_law_load m_law_lowest)) := by
  refine ok_of (N := ["draws", "most", "top", "bottom"]) D sc_law_load rfl fun f cdv A outer s H E hr => ?_
  have sc := sc_law_load
  exact s_cons (s_parVV (i := 2) (j := 3) rfl sc.nd (by rfl) (by rfl) (by decide) rfl rfl (x_mod (PX.toB (x_ix hr.units (b_var 0) (PX.toB (x_int)))) (PX.toB (x_add (b_var 1) (PX.toB (x_int))))) (x_ix hr.units (PX.toB (x_lst (ar_val (x_int) (ar_val (x_int) (ar_val (x_int) (ar_val (x_add (PX.toB (x_int)) (PX.toB (x_mod (PX.toB (x_ix hr.units (b_var 0) (PX.toB (x_int)))) (PX.toB (x_int))))) (ar_nil))))))) (PX.toB (x_mod (PX.toB (x_ix hr.units (b_var 0) (PX.toB (x_int)))) (PX.toB (x_int))))) (by rfl)) (s_one (s_ret (o_call o_law_lowest hr (by rfl) (ar_val (x_add (PX.toB (x_mul (b_var 2) (b_var 3))) (PX.toB (x_mul (PX.toB (x_ix hr.units (PX.toB (x_lst (ar_val (x_int) (ar_val (x_int) (ar_val (x_sub (PX.toB (x_int)) (PX.toB (x_int))) (ar_nil)))))) (PX.toB (x_mod (PX.toB (x_ix hr.units (b_var 0) (PX.toB (x_int)))) (PX.toB (x_int)))))) (PX.toB (x_intC (by rfl) B.int (PX.toB (x_gt (b_var 2) (PX.toB (x_int))))))))) (ar_val (x_var 3) (ar_nil))))))
theorem sc_law_strands : FnScope ["cord", "found", "part"] ["cord"] (defScope (st 21)) := ⟨rfl, rfl, rfl, by decide +kernel, rfl, by decide +kernel, by decide +kernel⟩
theorem w_law_strands {k : Nat} {m_law_strands : Fn} (D : Df K mg "_law_strands" (st 21) ["cord"]) (B : Bi mg) (o_law_strands : Ok P w K mg base "_law_strands" k ["cord"] false [false] m_law_strands) : Ok P w K mg base "_law_strands" (k + 1) ["cord"] false [false] (runQ false 3 [false] (G_law_strands m_law_strands)) := by
  refine ok_of (N := ["cord", "found", "part"]) D sc_law_strands rfl fun f cdv A outer s H E hr => ?_
  have sc := sc_law_strands
  exact s_cons (s_if (t_val (x_isi (tn := "str") (by rfl) B.isinstance (by rfl) B.str (by decide +kernel) kit_str (PX.toB (x_ix hr.units (b_var 0) (PX.toB (x_int)))))) (s_one (s_ret (x_lst (ar_val (x_var 0) (ar_nil))))) (s_nil)) (s_cons (s_set (i := 1) sc.nd (by rfl) (by first | exact Or.inl rfl | exact Or.inr rfl) (x_lst (ar_nil))) (s_cons (s_for (is := [2]) PassesOwn.never rfl (i_seq (x_var 0)) (pg_name (i := 2) sc.nd (by rfl) (by first | exact Or.inl rfl | exact Or.inr rfl)) (tg_name _ (i := 2) (by decide)) (s_one (s_set (i := 1) sc.nd (by rfl) (by first | exact Or.inl rfl | exact Or.inr rfl) (x_add (b_var 1) (PX.toB (o_call o_law_strands hr (by rfl) (ar_val (x_var 2) (ar_nil)))))))) (s_one (s_ret (x_var 1)))))
theorem r_law_strands (D : Df K mg "_law_strands" (st 21) ["cord"]) (B : Bi mg) {q : Nat} : ∀ n, Ok P w K mg base "_law_strands" (q + n) ["cord"] false [false] (mf_law_strands n)
  | 0 => ok_none D
  | n + 1 => w_law_strands D B (r_law_strands D B n)
theorem sc_law_counts : FnScope ["cord", "lot", "some", "part", "one", "found", "name"] ["cord", "lot"] (defScope (st 22)) := ⟨rfl, rfl, rfl, by decide +kernel, rfl, by decide +kernel, by decide +kernel⟩
theorem w_law_counts {k : Nat} {m_law_counts : Fn} (D : Df K mg "_law_counts" (st 22) ["cord", "lot"]) (B : Bi mg) (o_law_counts : Ok P w K mg base "_law_counts" k ["cord", "lot"] false [false, true] m_law_counts) : Ok P w K mg base "_law_counts" (k + 1) ["cord", "lot"] false [false, true] (runQ false 7 [false, true] (G_law_counts m_law_counts)) := by
  refine ok_of (N := ["cord", "lot", "some", "part", "one", "found", "name"]) D sc_law_counts rfl fun f cdv A outer s H E hr => ?_
  have sc := sc_law_counts
  exact s_cons (s_if (t_val (x_isi (tn := "str") (by rfl) B.isinstance (by rfl) B.str (by decide +kernel) kit_str (PX.toB (x_ix hr.units (b_var 0) (PX.toB (x_int)))))) (s_one (s_ret (x_if (t_in (hr65 hr) (PX.toB (x_ix hr.units (b_var 0) (PX.toB (x_int)))) (b_var 1)) (PF.toX (f_dict1 (x_ix hr.units (b_var 0) (PX.toB (x_int))) (x_int))) (PF.toX (f_dict0))))) (s_nil)) (s_cons (s_setLc (i := 2) (own := [("part", 3)]) rfl sc.nd (by rfl) rfl (sw_true rfl rfl rfl (by decide +kernel)) (IX.br (i_seq (x_var 0))) (by first | exact blkOk_by (N := ["cord", "lot", "some", "part", "one", "found", "name"]) (sc := defScope (st 22)) (by decide +kernel) | exact blkOk_by (by kernel_rfl)) (fun _ _ _ _ _ => pg_name (i := 3) sc.nd (by rfl) (by first | exact Or.inl rfl | exact Or.inr rfl)) (tg_name _ (i := 3) (by decide)) (fun _ _ _ _ _ => if_nil) (fun _ _ _ _ _ => o_call o_law_counts hr (by rfl) (ar_val (x_var 3) (ar_bor (b_var 1) (ar_nil))))) (s_cons (s_setLc (i := 2) (own := [("one", 4)]) rfl sc.nd (by rfl) rfl (sw_true rfl rfl rfl (by decide +kernel)) (IX.br (i_seq (x_var 2))) (by first | exact blkOk_by (N := ["cord", "lot", "some", "part", "one", "found", "name"]) (sc := defScope (st 22)) (by decide +kernel) | exact blkOk_by (by kernel_rfl)) (fun _ _ _ _ _ => pg_name (i := 4) sc.nd (by rfl) (by first | exact Or.inl rfl | exact Or.inr rfl)) (tg_name _ (i := 4) (by decide)) (fun _ _ _ _ _ => if_one (t_ne hr.units (b_var 4) (PX.toB (PF.toX (f_dict0))))) (fun _ _ _ _ _ => x_var 4)) (s_cons (s_own (i := 5) sc.nd (by rfl) (by first | exact Or.inl rfl | exact Or.inr rfl) (f_dict0)) (s_cons (s_for (is := [4]) PassesOwn.never rfl (i_seq (x_var 2)) (pg_name (i := 4) sc.nd (by rfl) (by first | exact Or.inl rfl | exact Or.inr rfl)) (tg_name _ (i := 4) (by decide)) (s_one (s_for (is := [6]) PassesOwn.never rfl (i_seq (x_var 4)) (pg_name (i := 6) sc.nd (by rfl) (by first | exact Or.inl rfl | exact Or.inr rfl)) (tg_name _ (i := 6) (by decide)) (s_one (s_put hr.units 5 (x_var 6) (x_mul (PX.toB (x_len (by rfl) B.len (b_var 2))) (PX.toB (x_ix hr.units (b_var 4) (b_var 6))))))))) (s_one (s_frz 5 (s_ret (x_var 5))))))))
theorem r_law_counts (D : Df K mg "_law_counts" (st 22) ["cord", "lot"]) (B : Bi mg) {q : Nat} : ∀ n, Ok P w K mg base "_law_counts" (q + n) ["cord", "lot"] false [false, true] (mf_law_counts n)
  | 0 => ok_none D
  | n + 1 => w_law_counts D B (r_law_counts D B n)
theorem sc_law_over : FnScope ["cord", "load", "lot", "counts", "most", "name"] ["cord", "load", "lot"] (defScope (st 23)) := ⟨rfl, rfl, rfl, by decide +kernel, rfl, by decide +kernel, by decide +kernel⟩
theorem w_law_over {k : Nat} {m_law_counts : Fn} {m_law_strands : Fn} (D : Df K mg "_law_over" (st 23) ["cord", "load", "lot"]) (B : Bi mg) (o_law_counts : Ok P w K mg base "_law_counts" k ["cord", "lot"] false [false, true] m_law_counts) (o_law_strands : Ok P w K mg base "_law_strands" k ["cord"] false [false] m_law_strands) : Ok P w K mg base "_law_over" (k + 1) ["cord", "load", "lot"] false [false, false, true] (runQ false 6 [false, false, true] (G_law_over m_law_counts m_law_strands)) := by
  refine ok_of (N := ["cord", "load", "lot", "counts", "most", "name"]) D sc_law_over rfl fun f cdv A outer s H E hr => ?_
  have sc := sc_law_over
  exact s_cons (s_set (i := 3) sc.nd (by rfl) (by first | exact Or.inl rfl | exact Or.inr rfl) (o_call o_law_counts hr (by rfl) (ar_val (x_var 0) (ar_bor (b_var 2) (ar_nil))))) (s_cons (s_set (i := 4) sc.nd (by rfl) (by first | exact Or.inl rfl | exact Or.inr rfl) (x_dictC rfl (by rfl) B.dict (PX.toB (o_call o_law_strands hr (by rfl) (ar_val (x_var 0) (ar_nil)))))) (s_one (s_ret (x_sorted rfl hr.units (by rfl) B.sorted (PX.toB (x_lc (own := [("name", 5)]) rfl sc.nd (IX.br (i_seq (x_var 3))) (by first | exact blkOk_by (N := ["cord", "load", "lot", "counts", "most", "name"]) (sc := defScope (st 23)) (by decide +kernel) | exact blkOk_by (by kernel_rfl)) (fun _ _ _ _ _ => pg_name (i := 5) sc.nd (by rfl) (by first | exact Or.inl rfl | exact Or.inr rfl)) (tg_name _ (i := 5) (by decide)) (fun _ _ _ _ _ => if_one (t_gt (PX.toB (x_ix hr.units (b_var 1) (PX.toB (x_int)))) (PX.toB (x_mul (PX.toB (x_mul (PX.toB (x_ix hr.units (b_var 4) (b_var 5))) (PX.toB (x_ix hr.units (b_var 1) (PX.toB (x_int)))))) (PX.toB (x_ix hr.units (b_var 3) (b_var 5))))))) (fun _ _ _ _ _ => x_var 5)))))))
theorem sc_law_held : FnScope ["cord", "load", "lot", "bad", "name"] ["cord", "load", "lot"] (defScope (st 24)) := ⟨rfl, rfl, rfl, by decide +kernel, rfl, by decide +kernel, by decide +kernel⟩
theorem w_law_held {k : Nat} {m_law_over : Fn} (D : Df K mg "_law_held" (st 24) ["cord", "load", "lot"]) (B : Bi mg) (o_law_over : Ok P w K mg base "_law_over" k ["cord", "load", "lot"] false [false, false, true] m_law_over) : Ok P w K mg base "_law_held" (k + 1) ["cord", "load", "lot"] false [false, false, false] (runQ false 5 [false, false, false] (G_law_held m_law_over)) := by
  refine ok_of (N := ["cord", "load", "lot", "bad", "name"]) D sc_law_held rfl fun f cdv A outer s H E hr => ?_
  have sc := sc_law_held
  exact s_cons (s_set (i := 2) sc.nd (by rfl) (by first | exact Or.inl rfl | exact Or.inr rfl) (x_sorted rfl hr.units (by rfl) B.sorted (b_var 2))) (s_cons (s_while PassesOwn.never (t_ne hr.units (PX.toB (o_call o_law_over hr (by rfl) (ar_val (x_var 0) (ar_val (x_var 1) (ar_bor (b_var 2) (ar_nil)))))) (PX.toB (x_lst (ar_nil)))) (s_cons (s_set (i := 3) sc.nd (by rfl) (by first | exact Or.inl rfl | exact Or.inr rfl) (o_call o_law_over hr (by rfl) (ar_val (x_var 0) (ar_val (x_var 1) (ar_bor (b_var 2) (ar_nil)))))) (s_one (s_setLc (i := 2) (own := [("name", 4)]) rfl sc.nd (by rfl) rfl (sw_true rfl rfl rfl (by decide +kernel)) (IX.br (i_seq (x_var 2))) (by first | exact blkOk_by (N := ["cord", "load", "lot", "bad", "name"]) (sc := defScope (st 24)) (by decide +kernel) | exact blkOk_by (by kernel_rfl)) (fun _ _ _ _ _ => pg_name (i := 4) sc.nd (by rfl) (by first | exact Or.inl rfl | exact Or.inr rfl)) (tg_name _ (i := 4) (by decide)) (fun _ _ _ _ _ => if_one (t_notIn (hr65 hr) (b_var 4) (b_var 3))) (fun _ _ _ _ _ => x_var 4))))) (s_one (s_ret (x_tupleC (by rfl) B.tuple (b_var 2)))))
theorem sc_law_names : FnScope ["cord", "name", "most"] ["cord"] (defScope (st 25)) := ⟨rfl, rfl, rfl, by decide +kernel, rfl, by decide +kernel, by decide +kernel⟩
theorem w_law_names {k : Nat} {m_law_strands : Fn} (D : Df K mg "_law_names" (st 25) ["cord"]) (B : Bi mg) (o_law_strands : Ok P w K mg base "_law_strands" k ["cord"] false [false] m_law_strands) : Ok P w K mg base "_law_names" (k + 1) ["cord"] true [false] (runQ true 3 [false] (G_law_names m_law_strands)) := by
  refine ok_of (N := ["cord", "name", "most"]) D sc_law_names rfl fun f cdv A outer s H E hr => ?_
  have sc := sc_law_names
  exact s_one (s_retF (f_sorted rfl hr.units (by rfl) B.sorted (PX.toB (x_lc (own := [("name", 1), ("most", 2)]) rfl sc.nd (IX.br (i_seq (o_call o_law_strands hr (by rfl) (ar_val (x_var 0) (ar_nil))))) (by first | exact blkOk_by (N := ["cord", "name", "most"]) (sc := defScope (st 25)) (by decide +kernel) | exact blkOk_by (by kernel_rfl)) (fun _ _ _ _ _ => pg_tup rfl (pgs_cons (pg_name (i := 1) sc.nd (by rfl) (by first | exact Or.inl rfl | exact Or.inr rfl)) (pgs_cons (pg_name (i := 2) sc.nd (by rfl) (by first | exact Or.inl rfl | exact Or.inr rfl)) (pgs_nil)))) (tg_two _ (i := 1) (j := 2) (by decide) (by decide)) (fun _ _ _ _ _ => if_nil) (fun _ _ _ _ _ => x_var 1)))))
theorem sc_law_weak : FnScope ["cord", "name", "most", "part"] ["cord", "name", "most"] (defScope (st 26)) := ⟨rfl, rfl, rfl, by decide +kernel, rfl, by decide +kernel, by decide +kernel⟩
theorem w_law_weak {k : Nat} {m_law_weak : Fn} (D : Df K mg "_law_other" (st 26) ["cord", "name", "most"]) (B : Bi mg) (o_law_weak : Ok P w K mg base "_law_other" k ["cord", "name", "most"] false [false, false, false] m_law_weak) : Ok P w K mg base "_law_other" (k + 1) ["cord", "name", "most"] false [false, false, false] (runQ false 4 [false, false, false] (G_law_weak m_law_weak)) := by
  refine ok_of (N := ["cord", "name", "most", "part"]) D sc_law_weak rfl fun f cdv A outer s H E hr => ?_
  have sc := sc_law_weak
  exact s_cons (s_if (t_val (x_isi (tn := "str") (by rfl) B.isinstance (by rfl) B.str (by decide +kernel) kit_str (PX.toB (x_ix hr.units (b_var 0) (PX.toB (x_int)))))) (s_one (s_ret (x_tup (ar_val (x_ix hr.units (b_var 0) (PX.toB (x_int))) (ar_val (x_if (t_eq hr.units (PX.toB (x_ix hr.units (b_var 0) (PX.toB (x_int)))) (b_var 1)) (x_var 2) (x_ix hr.units (b_var 0) (PX.toB (x_int)))) (ar_nil)))))) (s_nil)) (s_one (s_ret (x_tupleC (by rfl) B.tuple (PX.toB (x_lc (own := [("part", 3)]) rfl sc.nd (IX.br (i_seq (x_var 0))) (by first | exact blkOk_by (N := ["cord", "name", "most", "part"]) (sc := defScope (st 26)) (by decide +kernel) | exact blkOk_by (by kernel_rfl)) (fun _ _ _ _ _ => pg_name (i := 3) sc.nd (by rfl) (by first | exact Or.inl rfl | exact Or.inr rfl)) (tg_name _ (i := 3) (by decide)) (fun _ _ _ _ _ => if_nil) (fun _ _ _ _ _ => o_call o_law_weak hr (by rfl) (ar_val (x_var 3) (ar_val (x_var 1) (ar_val (x_var 2) (ar_nil))))))))))
theorem r_law_weak (D : Df K mg "_law_other" (st 26) ["cord", "name", "most"]) (B : Bi mg) {q : Nat} : ∀ n, Ok P w K mg base "_law_other" (q + n) ["cord", "name", "most"] false [false, false, false] (mf_law_weak n)
  | 0 => ok_none D
  | n + 1 => w_law_weak D B (r_law_weak D B n)
theorem sc_law_does : FnScope ["cord", "load", "unknown", "name", "most"] ["cord", "load", "unknown", "name", "most"] (defScope (st 27)) := ⟨rfl, rfl, rfl, by decide +kernel, rfl, by decide +kernel, by decide +kernel⟩
theorem w_law_does {k : Nat} {m_law_weak : Fn} {m_law_names : Fn} {m_law_held : Fn} (D : Df K mg "_law_does" (st 27) ["cord", "load", "unknown", "name", "most"]) (B : Bi mg) (o_law_weak : Ok P w K mg base "_law_other" k ["cord", "name", "most"] false [false, false, false] m_law_weak) (o_law_names : Ok P w K mg base "_law_names" k ["cord"] true [false] m_law_names) (o_law_held : Ok P w K mg base "_law_held" k ["cord", "load", "lot"] false [false, false, false] m_law_held) : Ok P w K mg base "_law_does" (k + 1) ["cord", "load", "unknown", "name", "most"] false [false, false, false, false, false] (runQ false 5 [false, false, false, false, false] (G_law_does m_law_weak m_law_names m_law_held)) := by
  refine ok_of (N := ["cord", "load", "unknown", "name", "most"]) D sc_law_does rfl fun f cdv A outer s H E hr => ?_
  have sc := sc_law_does
  exact s_one (s_ret (x_in (hr65 hr) (b_var 3) (PX.toB (o_call o_law_held hr (by rfl) (ar_val (o_call o_law_weak hr (by rfl) (ar_val (x_var 0) (ar_val (x_var 2) (ar_val (x_var 4) (ar_nil))))) (ar_val (x_var 1) (ar_val (PF.toX (o_callF o_law_names hr (by rfl) (ar_val (x_var 0) (ar_nil)))) (ar_nil))))))))
theorem sc_law : FnScope ["script", "at", "draws", "cord", "more", "names", "load", "far", "unknown", "name", "told"] ["script"] (defScope (st 28)) := ⟨rfl, rfl, rfl, by decide +kernel, rfl, by decide +kernel, by decide +kernel⟩
theorem w_law {k : Nat} {m_law_draws : Fn} {m_law_cord : Fn} {m_law_names : Fn} {m_strength : Fn} {m_law_load : Fn} {m_least_of : Fn} {m_law_does : Fn} {m_law_number : Fn} {f : Addr} {fd : FuncData} (Fu : L2.Fun K "law" "law" (st 28) f fd) (B : Bi mg) (o_law_draws : Ok P w K mg base "_law_draws" k ["script", "k", "many", "base"] false [false, false, false, false] m_law_draws) (o_law_cord : Ok P w K mg base "_law_cord" k ["draws", "most"] false [false, false] m_law_cord) (o_law_names : Ok P w K mg base "_law_names" k ["cord"] true [false] m_law_names) (o_strength : Ok P w K mg base "strength" k ["cord"] false [false] m_strength) (o_law_load : Ok P w K mg base "_law_load" k ["draws", "most"] false [false, false] m_law_load) (o_least_of : Ok P w K mg base "least_of" k ["cord", "load", "unknown", "name"] false [false, false, false, false] m_least_of) (o_law_does : Ok P w K mg base "_law_does" k ["cord", "load", "unknown", "name", "most"] false [false, false, false, false, false] m_law_does) (o_law_number : Ok P w K mg base "_law_number" k ["thing", "least", "most"] false [false, false, false] m_law_number) : FnOk P w K mg base CX0 (k + 1) f fd ["script"] (spQ K false [false] (runQ false 11 [false] (G_law m_law_draws m_law_cord m_law_names m_strength m_law_load m_least_of m_law_does m_law_number))) := by
  refine fn_ok (N := ["script", "at", "draws", "cord", "more", "names", "load", "far", "unknown", "name", "told"]) (ms := [false]) (fr := false) Fu sc_law rfl rfl fun cdv A outer s H E hr => ?_
  have sc := sc_law
  exact s_cons (s_for (is := [1]) PassesOwn.never rfl (i_seq (x_tup (ar_val (x_int) (ar_val (x_int) (ar_val (x_int) (ar_val (x_int) (ar_nil))))))) (pg_name (i := 1) sc.nd (by rfl) (by first | exact Or.inl rfl | exact Or.inr rfl)) (tg_name _ (i := 1) (by decide)) (s_cons (s_set (i := 2) sc.nd (by rfl) (by first | exact Or.inl rfl | exact Or.inr rfl) (o_call o_law_draws hr (by rfl) (ar_val (x_var 0) (ar_val (x_var 1) (ar_val (x_int) (ar_val (x_int) (ar_nil))))))) (s_cons (s_set (i := 3) sc.nd (by rfl) (by first | exact Or.inl rfl | exact Or.inr rfl) (o_call o_law_cord hr (by rfl) (ar_val (x_var 2) (ar_val (x_int) (ar_nil))))) (s_cons (s_set (i := 4) sc.nd (by rfl) (by first | exact Or.inl rfl | exact Or.inr rfl) (o_call o_law_draws hr (by rfl) (ar_val (x_var 0) (ar_val (x_add (b_var 1) (PX.toB (x_int))) (ar_val (x_int) (ar_val (x_int) (ar_nil))))))) (s_cons (s_set (i := 5) sc.nd (by rfl) (by first | exact Or.inl rfl | exact Or.inr rfl) (PF.toX (o_callF o_law_names hr (by rfl) (ar_val (x_var 3) (ar_nil))))) (s_cons (s_set (i := 6) sc.nd (by rfl) (by first | exact Or.inl rfl | exact Or.inr rfl) (o_call o_law_load hr (by rfl) (ar_val (x_var 4) (ar_val (x_ix hr.units (PX.toB (x_lst (ar_val (o_call o_strength hr (by rfl) (ar_val (x_var 3) (ar_nil))) (ar_val (x_mul (PX.toB (x_int)) (PX.toB (o_call o_strength hr (by rfl) (ar_val (x_var 3) (ar_nil))))) (ar_nil))))) (PX.toB (x_mod (PX.toB (x_ix hr.units (b_var 4) (PX.toB (x_int)))) (PX.toB (x_int))))) (ar_nil))))) (s_cons (s_set (i := 7) sc.nd (by rfl) (by first | exact Or.inl rfl | exact Or.inr rfl) (x_pow (PX.toB (x_int)) (PX.toB (x_int)))) (s_one (s_for (is := [8]) PassesOwn.never rfl (i_seq (x_var 5)) (pg_name (i := 8) sc.nd (by rfl) (by first | exact Or.inl rfl | exact Or.inr rfl)) (tg_name _ (i := 8) (by decide)) (s_one (s_for (is := [9]) PassesOwn.never rfl (i_seq (x_var 5)) (pg_name (i := 9) sc.nd (by rfl) (by first | exact Or.inl rfl | exact Or.inr rfl)) (tg_name _ (i := 9) (by decide)) (s_cons (s_set (i := 10) sc.nd (by rfl) (by first | exact Or.inl rfl | exact Or.inr rfl) (o_call o_least_of hr (by rfl) (ar_val (x_var 3) (ar_val (x_var 6) (ar_val (x_var 8) (ar_val (x_var 9) (ar_nil))))))) (s_one (s_if (t_isN (b_var 10)) (s_one (s_if (w_pt (w_or (t_val (o_call o_law_does hr (by rfl) (ar_val (x_var 3) (ar_val (x_var 6) (ar_val (x_var 8) (ar_val (x_var 9) (ar_val (x_var 7) (ar_nil)))))))) (w_or1 (t_val (o_call o_law_does hr (by rfl) (ar_val (x_var 3) (ar_val (x_var 6) (ar_val (x_var 8) (ar_val (x_var 9) (ar_val (x_int) (ar_nil))))))))))) (s_one (s_ret (x_bl))) (s_nil))) (s_cons (s_if (w_pt (w_or (t_not (t_val (o_call o_law_number hr (by rfl) (ar_val (x_var 10) (ar_val (x_int) (ar_val (x_var 7) (ar_nil))))))) (w_or1 (t_not (t_val (o_call o_law_does hr (by rfl) (ar_val (x_var 3) (ar_val (x_var 6) (ar_val (x_var 8) (ar_val (x_var 9) (ar_val (x_var 10) (ar_nil)))))))))))) (s_one (s_ret (x_bl))) (s_nil)) (s_cons (s_if (w_pt (w_and (t_gt (b_var 10) (PX.toB (x_int))) (w_and1 (t_val (o_call o_law_does hr (by rfl) (ar_val (x_var 3) (ar_val (x_var 6) (ar_val (x_var 8) (ar_val (x_var 9) (ar_val (x_sub (b_var 10) (PX.toB (x_int))) (ar_nil))))))))))) (s_one (s_ret (x_bl))) (s_nil)) (s_one (s_if (t_not (t_val (o_call o_law_does hr (by rfl) (ar_val (x_var 3) (ar_val (x_var 6) (ar_val (x_var 8) (ar_val (x_var 9) (ar_val (x_add (PX.toB (x_add (b_var 10) (PX.toB (x_int)))) (PX.toB (x_mod (PX.toB (x_ix hr.units (b_var 4) (PX.toB (x_int)))) (PX.toB (x_int))))) (ar_nil))))))))) (s_one (s_ret (x_bl))) (s_nil))))))))))))))))))) (s_cons (s_if (t_ne hr.units (PX.toB (o_call o_least_of hr (by rfl) (ar_val (x_tup (ar_val (x_str) (ar_val (x_int) (ar_nil)))) (ar_val (x_tup (ar_val (x_int) (ar_val (x_int) (ar_nil)))) (ar_val (x_str) (ar_val (x_str) (ar_nil))))))) (PX.toB (x_int))) (s_one (s_ret (x_bl))) (s_nil)) (s_cons (s_set (i := 3) sc.nd (by rfl) (by first | exact Or.inl rfl | exact Or.inr rfl) (x_tup (ar_val (x_tup (ar_val (x_str) (ar_val (x_int) (ar_nil)))) (ar_val (x_tup (ar_val (x_str) (ar_val (x_int) (ar_nil)))) (ar_nil))))) (s_one (s_ret (x_and (x_eq hr.units (PX.toB (o_call o_least_of hr (by rfl) (ar_val (x_var 3) (ar_val (x_tup (ar_val (x_int) (ar_val (x_int) (ar_nil)))) (ar_val (x_str) (ar_val (x_str) (ar_nil))))))) (PX.toB (x_int))) (x_one (x_isN (PX.toB (o_call o_least_of hr (by rfl) (ar_val (x_var 3) (ar_val (x_tup (ar_val (x_int) (ar_val (x_int) (ar_nil)))) (ar_val (x_str) (ar_val (x_str) (ar_nil))))))))))))))
theorem all_mk {l : PySem.W.OpenLaw} {w : World} {K : PySem.W.Frag} {h : Heap} {mg : Str → Option Value} {fa f_is_one f_changed f_parted_by f_greatest f_shares f_holding f_does f_least_of f_strength f_law_cell f_law_draws f_law_number f_law_tied f_law_cord f_law_lowest f_law_load f_law_strands f_law_counts f_law_over f_law_held f_law_names f_law_weak f_law_does f_law : Addr} (X : K.In h) (G : h.Ns mainGlobals mg) (hfa : mg "law" = some (.ref fa))
    {od_is_one an_is_one od_changed an_changed od_parted_by an_parted_by od_greatest an_greatest od_shares an_shares od_holding an_holding od_does an_does od_least_of an_least_of od_strength an_strength od_law_cell an_law_cell od_law_draws an_law_draws od_law_number an_law_number od_law_tied an_law_tied od_law_cord an_law_cord od_law_lowest an_law_lowest od_law_load an_law_load od_law_strands an_law_strands od_law_counts an_law_counts od_law_over an_law_over od_law_held an_law_held od_law_names an_law_names od_law_weak an_law_weak od_law_does an_law_does od_law an_law : Option Addr} {sl_is_one sl_changed sl_parted_by sl_greatest sl_shares sl_holding sl_does sl_least_of sl_strength sl_law_cell sl_law_draws sl_law_number sl_law_tied sl_law_cord sl_law_lowest sl_law_load sl_law_strands sl_law_counts sl_law_over sl_law_held sl_law_names sl_law_weak sl_law_does sl_law : Array (Option Value)} {oc_is_one kV_is_one dc_is_one pm_is_one cd_is_one ct_is_one oc_changed kV_changed dc_changed pm_changed cd_changed ct_changed oc_parted_by kV_parted_by dc_parted_by pm_parted_by cd_parted_by ct_parted_by oc_greatest kV_greatest dc_greatest pm_greatest cd_greatest ct_greatest oc_shares kV_shares dc_shares pm_shares cd_shares ct_shares oc_holding kV_holding dc_holding pm_holding cd_holding ct_holding oc_does kV_does dc_does pm_does cd_does ct_does oc_least_of kV_least_of dc_least_of pm_least_of cd_least_of ct_least_of oc_strength kV_strength dc_strength pm_strength cd_strength ct_strength oc_law_cell kV_law_cell dc_law_cell pm_law_cell cd_law_cell ct_law_cell oc_law_draws kV_law_draws dc_law_draws pm_law_draws cd_law_draws ct_law_draws oc_law_number kV_law_number dc_law_number pm_law_number cd_law_number ct_law_number oc_law_tied kV_law_tied dc_law_tied pm_law_tied cd_law_tied ct_law_tied oc_law_cord kV_law_cord dc_law_cord pm_law_cord cd_law_cord ct_law_cord oc_law_lowest kV_law_lowest dc_law_lowest pm_law_lowest cd_law_lowest ct_law_lowest oc_law_load kV_law_load dc_law_load pm_law_load cd_law_load ct_law_load oc_law_strands kV_law_strands dc_law_strands pm_law_strands cd_law_strands ct_law_strands oc_law_counts kV_law_counts dc_law_counts pm_law_counts cd_law_counts ct_law_counts oc_law_over kV_law_over dc_law_over pm_law_over cd_law_over ct_law_over oc_law_held kV_law_held dc_law_held pm_law_held cd_law_held ct_law_held oc_law_names kV_law_names dc_law_names pm_law_names cd_law_names ct_law_names oc_law_weak kV_law_weak dc_law_weak pm_law_weak cd_law_weak ct_law_weak oc_law_does kV_law_does dc_law_does pm_law_does cd_law_does ct_law_does oc_law kV_law dc_law pm_law cd_law ct_law : Value}
    (a_is_one : PySem.W.nsIn K mainGlobals "is_one" = some (some (.ref f_is_one))) (l_is_one : K.lookup f_is_one = some ⟨oc_is_one, od_is_one, .func (PySem.W.fnOf "is_one" "is_one" (defArgs (st 1)) (defBody (st 1)) (defScope (st 1)) .none kV_is_one dc_is_one pm_is_one an_is_one cd_is_one ct_is_one), sl_is_one⟩) (c_is_one : PySem.W.codeIn K cd_is_one "is_one" = true) (k_is_one : PySem.W.keepIn K (.ref f_is_one) = true)
    (a_changed : PySem.W.nsIn K mainGlobals "changed" = some (some (.ref f_changed))) (l_changed : K.lookup f_changed = some ⟨oc_changed, od_changed, .func (PySem.W.fnOf "changed" "changed" (defArgs (st 2)) (defBody (st 2)) (defScope (st 2)) .none kV_changed dc_changed pm_changed an_changed cd_changed ct_changed), sl_changed⟩) (c_changed : PySem.W.codeIn K cd_changed "changed" = true) (k_changed : PySem.W.keepIn K (.ref f_changed) = true)
    (a_parted_by : PySem.W.nsIn K mainGlobals "parted_by" = some (some (.ref f_parted_by))) (l_parted_by : K.lookup f_parted_by = some ⟨oc_parted_by, od_parted_by, .func (PySem.W.fnOf "parted_by" "parted_by" (defArgs (st 4)) (defBody (st 4)) (defScope (st 4)) .none kV_parted_by dc_parted_by pm_parted_by an_parted_by cd_parted_by ct_parted_by), sl_parted_by⟩) (c_parted_by : PySem.W.codeIn K cd_parted_by "parted_by" = true) (k_parted_by : PySem.W.keepIn K (.ref f_parted_by) = true)
    (a_greatest : PySem.W.nsIn K mainGlobals "greatest" = some (some (.ref f_greatest))) (l_greatest : K.lookup f_greatest = some ⟨oc_greatest, od_greatest, .func (PySem.W.fnOf "greatest" "greatest" (defArgs (st 5)) (defBody (st 5)) (defScope (st 5)) .none kV_greatest dc_greatest pm_greatest an_greatest cd_greatest ct_greatest), sl_greatest⟩) (c_greatest : PySem.W.codeIn K cd_greatest "greatest" = true) (k_greatest : PySem.W.keepIn K (.ref f_greatest) = true)
    (a_shares : PySem.W.nsIn K mainGlobals "shares" = some (some (.ref f_shares))) (l_shares : K.lookup f_shares = some ⟨oc_shares, od_shares, .func (PySem.W.fnOf "shares" "shares" (defArgs (st 6)) (defBody (st 6)) (defScope (st 6)) .none kV_shares dc_shares pm_shares an_shares cd_shares ct_shares), sl_shares⟩) (c_shares : PySem.W.codeIn K cd_shares "shares" = true) (k_shares : PySem.W.keepIn K (.ref f_shares) = true)
    (a_holding : PySem.W.nsIn K mainGlobals "holding" = some (some (.ref f_holding))) (l_holding : K.lookup f_holding = some ⟨oc_holding, od_holding, .func (PySem.W.fnOf "holding" "holding" (defArgs (st 7)) (defBody (st 7)) (defScope (st 7)) .none kV_holding dc_holding pm_holding an_holding cd_holding ct_holding), sl_holding⟩) (c_holding : PySem.W.codeIn K cd_holding "holding" = true) (k_holding : PySem.W.keepIn K (.ref f_holding) = true)
    (a_does : PySem.W.nsIn K mainGlobals "does" = some (some (.ref f_does))) (l_does : K.lookup f_does = some ⟨oc_does, od_does, .func (PySem.W.fnOf "does" "does" (defArgs (st 9)) (defBody (st 9)) (defScope (st 9)) .none kV_does dc_does pm_does an_does cd_does ct_does), sl_does⟩) (c_does : PySem.W.codeIn K cd_does "does" = true) (k_does : PySem.W.keepIn K (.ref f_does) = true)
    (a_least_of : PySem.W.nsIn K mainGlobals "least_of" = some (some (.ref f_least_of))) (l_least_of : K.lookup f_least_of = some ⟨oc_least_of, od_least_of, .func (PySem.W.fnOf "least_of" "least_of" (defArgs (st 10)) (defBody (st 10)) (defScope (st 10)) .none kV_least_of dc_least_of pm_least_of an_least_of cd_least_of ct_least_of), sl_least_of⟩) (c_least_of : PySem.W.codeIn K cd_least_of "least_of" = true) (k_least_of : PySem.W.keepIn K (.ref f_least_of) = true)
    (a_strength : PySem.W.nsIn K mainGlobals "strength" = some (some (.ref f_strength))) (l_strength : K.lookup f_strength = some ⟨oc_strength, od_strength, .func (PySem.W.fnOf "strength" "strength" (defArgs (st 12)) (defBody (st 12)) (defScope (st 12)) .none kV_strength dc_strength pm_strength an_strength cd_strength ct_strength), sl_strength⟩) (c_strength : PySem.W.codeIn K cd_strength "strength" = true) (k_strength : PySem.W.keepIn K (.ref f_strength) = true)
    (a_law_cell : PySem.W.nsIn K mainGlobals "_law_cell" = some (some (.ref f_law_cell))) (l_law_cell : K.lookup f_law_cell = some ⟨oc_law_cell, od_law_cell, .func (PySem.W.fnOf "_law_cell" "_law_cell" (defArgs (st 14)) (defBody (st 14)) (defScope (st 14)) .none kV_law_cell dc_law_cell pm_law_cell an_law_cell cd_law_cell ct_law_cell), sl_law_cell⟩) (c_law_cell : PySem.W.codeIn K cd_law_cell "_law_cell" = true) (k_law_cell : PySem.W.keepIn K (.ref f_law_cell) = true)
    (a_law_draws : PySem.W.nsIn K mainGlobals "_law_draws" = some (some (.ref f_law_draws))) (l_law_draws : K.lookup f_law_draws = some ⟨oc_law_draws, od_law_draws, .func (PySem.W.fnOf "_law_draws" "_law_draws" (defArgs (st 15)) (defBody (st 15)) (defScope (st 15)) .none kV_law_draws dc_law_draws pm_law_draws an_law_draws cd_law_draws ct_law_draws), sl_law_draws⟩) (c_law_draws : PySem.W.codeIn K cd_law_draws "_law_draws" = true) (k_law_draws : PySem.W.keepIn K (.ref f_law_draws) = true)
    (a_law_number : PySem.W.nsIn K mainGlobals "_law_number" = some (some (.ref f_law_number))) (l_law_number : K.lookup f_law_number = some ⟨oc_law_number, od_law_number, .func (PySem.W.fnOf "_law_number" "_law_number" (defArgs (st 16)) (defBody (st 16)) (defScope (st 16)) .none kV_law_number dc_law_number pm_law_number an_law_number cd_law_number ct_law_number), sl_law_number⟩) (c_law_number : PySem.W.codeIn K cd_law_number "_law_number" = true) (k_law_number : PySem.W.keepIn K (.ref f_law_number) = true)
    (a_law_tied : PySem.W.nsIn K mainGlobals "_law_tied" = some (some (.ref f_law_tied))) (l_law_tied : K.lookup f_law_tied = some ⟨oc_law_tied, od_law_tied, .func (PySem.W.fnOf "_law_tied" "_law_tied" (defArgs (st 17)) (defBody (st 17)) (defScope (st 17)) .none kV_law_tied dc_law_tied pm_law_tied an_law_tied cd_law_tied ct_law_tied), sl_law_tied⟩) (c_law_tied : PySem.W.codeIn K cd_law_tied "_law_tied" = true) (k_law_tied : PySem.W.keepIn K (.ref f_law_tied) = true)
    (a_law_cord : PySem.W.nsIn K mainGlobals "_law_cord" = some (some (.ref f_law_cord))) (l_law_cord : K.lookup f_law_cord = some ⟨oc_law_cord, od_law_cord, .func (PySem.W.fnOf "_law_cord" "_law_cord" (defArgs (st 18)) (defBody (st 18)) (defScope (st 18)) .none kV_law_cord dc_law_cord pm_law_cord an_law_cord cd_law_cord ct_law_cord), sl_law_cord⟩) (c_law_cord : PySem.W.codeIn K cd_law_cord "_law_cord" = true) (k_law_cord : PySem.W.keepIn K (.ref f_law_cord) = true)
    (a_law_lowest : PySem.W.nsIn K mainGlobals "_law_lowest" = some (some (.ref f_law_lowest))) (l_law_lowest : K.lookup f_law_lowest = some ⟨oc_law_lowest, od_law_lowest, .func (PySem.W.fnOf "_law_lowest" "_law_lowest" (defArgs (st 20)) (defBody (st 20)) (defScope (st 20)) .none kV_law_lowest dc_law_lowest pm_law_lowest an_law_lowest cd_law_lowest ct_law_lowest), sl_law_lowest⟩) (c_law_lowest : PySem.W.codeIn K cd_law_lowest "_law_lowest" = true) (k_law_lowest : PySem.W.keepIn K (.ref f_law_lowest) = true)
    (a_law_load : PySem.W.nsIn K mainGlobals "_law_load" = some (some (.ref f_law_load))) (l_law_load : K.lookup f_law_load = some ⟨oc_law_load, od_law_load, .func (PySem.W.fnOf "_law_load" "_law_load" (defArgs (st 19)) (defBody (st 19)) (defScope (st 19)) .none kV_law_load dc_law_load pm_law_load an_law_load cd_law_load ct_law_load), sl_law_load⟩) (c_law_load : PySem.W.codeIn K cd_law_load "_law_load" = true) (k_law_load : PySem.W.keepIn K (.ref f_law_load) = true)
    (a_law_strands : PySem.W.nsIn K mainGlobals "_law_strands" = some (some (.ref f_law_strands))) (l_law_strands : K.lookup f_law_strands = some ⟨oc_law_strands, od_law_strands, .func (PySem.W.fnOf "_law_strands" "_law_strands" (defArgs (st 21)) (defBody (st 21)) (defScope (st 21)) .none kV_law_strands dc_law_strands pm_law_strands an_law_strands cd_law_strands ct_law_strands), sl_law_strands⟩) (c_law_strands : PySem.W.codeIn K cd_law_strands "_law_strands" = true) (k_law_strands : PySem.W.keepIn K (.ref f_law_strands) = true)
    (a_law_counts : PySem.W.nsIn K mainGlobals "_law_counts" = some (some (.ref f_law_counts))) (l_law_counts : K.lookup f_law_counts = some ⟨oc_law_counts, od_law_counts, .func (PySem.W.fnOf "_law_counts" "_law_counts" (defArgs (st 22)) (defBody (st 22)) (defScope (st 22)) .none kV_law_counts dc_law_counts pm_law_counts an_law_counts cd_law_counts ct_law_counts), sl_law_counts⟩) (c_law_counts : PySem.W.codeIn K cd_law_counts "_law_counts" = true) (k_law_counts : PySem.W.keepIn K (.ref f_law_counts) = true)
    (a_law_over : PySem.W.nsIn K mainGlobals "_law_over" = some (some (.ref f_law_over))) (l_law_over : K.lookup f_law_over = some ⟨oc_law_over, od_law_over, .func (PySem.W.fnOf "_law_over" "_law_over" (defArgs (st 23)) (defBody (st 23)) (defScope (st 23)) .none kV_law_over dc_law_over pm_law_over an_law_over cd_law_over ct_law_over), sl_law_over⟩) (c_law_over : PySem.W.codeIn K cd_law_over "_law_over" = true) (k_law_over : PySem.W.keepIn K (.ref f_law_over) = true)
    (a_law_held : PySem.W.nsIn K mainGlobals "_law_held" = some (some (.ref f_law_held))) (l_law_held : K.lookup f_law_held = some ⟨oc_law_held, od_law_held, .func (PySem.W.fnOf "_law_held" "_law_held" (defArgs (st 24)) (defBody (st 24)) (defScope (st 24)) .none kV_law_held dc_law_held pm_law_held an_law_held cd_law_held ct_law_held), sl_law_held⟩) (c_law_held : PySem.W.codeIn K cd_law_held "_law_held" = true) (k_law_held : PySem.W.keepIn K (.ref f_law_held) = true)
    (a_law_names : PySem.W.nsIn K mainGlobals "_law_names" = some (some (.ref f_law_names))) (l_law_names : K.lookup f_law_names = some ⟨oc_law_names, od_law_names, .func (PySem.W.fnOf "_law_names" "_law_names" (defArgs (st 25)) (defBody (st 25)) (defScope (st 25)) .none kV_law_names dc_law_names pm_law_names an_law_names cd_law_names ct_law_names), sl_law_names⟩) (c_law_names : PySem.W.codeIn K cd_law_names "_law_names" = true) (k_law_names : PySem.W.keepIn K (.ref f_law_names) = true)
    (a_law_weak : PySem.W.nsIn K mainGlobals "_law_other" = some (some (.ref f_law_weak))) (l_law_weak : K.lookup f_law_weak = some ⟨oc_law_weak, od_law_weak, .func (PySem.W.fnOf "_law_other" "_law_other" (defArgs (st 26)) (defBody (st 26)) (defScope (st 26)) .none kV_law_weak dc_law_weak pm_law_weak an_law_weak cd_law_weak ct_law_weak), sl_law_weak⟩) (c_law_weak : PySem.W.codeIn K cd_law_weak "_law_other" = true) (k_law_weak : PySem.W.keepIn K (.ref f_law_weak) = true)
    (a_law_does : PySem.W.nsIn K mainGlobals "_law_does" = some (some (.ref f_law_does))) (l_law_does : K.lookup f_law_does = some ⟨oc_law_does, od_law_does, .func (PySem.W.fnOf "_law_does" "_law_does" (defArgs (st 27)) (defBody (st 27)) (defScope (st 27)) .none kV_law_does dc_law_does pm_law_does an_law_does cd_law_does ct_law_does), sl_law_does⟩) (c_law_does : PySem.W.codeIn K cd_law_does "_law_does" = true) (k_law_does : PySem.W.keepIn K (.ref f_law_does) = true)
    (a_law : PySem.W.nsIn K mainGlobals "law" = some (some (.ref f_law))) (l_law : K.lookup f_law = some ⟨oc_law, od_law, .func (PySem.W.fnOf "law" "law" (defArgs (st 28)) (defBody (st 28)) (defScope (st 28)) .none kV_law dc_law pm_law an_law cd_law ct_law), sl_law⟩) (c_law : PySem.W.codeIn K cd_law "law" = true) (k_law : PySem.W.keepIn K (.ref f_law) = true)
    (z_len : PySem.W.nsIn K mainGlobals "len" = some none)
    (z_isinstance : PySem.W.nsIn K mainGlobals "isinstance" = some none)
    (z_int : PySem.W.nsIn K mainGlobals "int" = some none)
    (z_bool : PySem.W.nsIn K mainGlobals "bool" = some none)
    (z_str : PySem.W.nsIn K mainGlobals "str" = some none)
    (z_tuple : PySem.W.nsIn K mainGlobals "tuple" = some none)
    (z_list : PySem.W.nsIn K mainGlobals "list" = some none)
    (z_sum : PySem.W.nsIn K mainGlobals "sum" = some none)
    (z_max : PySem.W.nsIn K mainGlobals "max" = some none)
    (z_min : PySem.W.nsIn K mainGlobals "min" = some none)
    (z_all : PySem.W.nsIn K mainGlobals "all" = some none)
    (z_any : PySem.W.nsIn K mainGlobals "any" = some none)
    (z_sorted : PySem.W.nsIn K mainGlobals "sorted" = some none)
    (z_range : PySem.W.nsIn K mainGlobals "range" = some none)
    (z_enumerate : PySem.W.nsIn K mainGlobals "enumerate" = some none)
    (z_zip : PySem.W.nsIn K mainGlobals "zip" = some none)
    (z_set : PySem.W.nsIn K mainGlobals "set" = some none)
    (z_dict : PySem.W.nsIn K mainGlobals "dict" = some none)
    : ∃ fd : FuncData, (∀ (s : Shared) (v : Value), BindsTo s fd ⟨[v], []⟩ [("script", v)]) ∧ ∀ base : Heap, K.In base → base.Ns mainGlobals mg → FnOk l.prog w K mg base CX0 53 fa fd ["script"] (spQ K false [false] m_law) := by
  cases hfa.symm.trans (PySem.W.mg_of X G a_law)
  have B : Bi mg := ⟨PySem.W.mg_none_of X G z_len, PySem.W.mg_none_of X G z_isinstance, PySem.W.mg_none_of X G z_int, PySem.W.mg_none_of X G z_bool, PySem.W.mg_none_of X G z_str, PySem.W.mg_none_of X G z_tuple, PySem.W.mg_none_of X G z_list, PySem.W.mg_none_of X G z_sum, PySem.W.mg_none_of X G z_max, PySem.W.mg_none_of X G z_min, PySem.W.mg_none_of X G z_all, PySem.W.mg_none_of X G z_any, PySem.W.mg_none_of X G z_sorted, PySem.W.mg_none_of X G z_range, PySem.W.mg_none_of X G z_enumerate, PySem.W.mg_none_of X G z_zip, PySem.W.mg_none_of X G z_set, PySem.W.mg_none_of X G z_dict⟩
  have D_is_one : Df K mg "is_one" (st 1) ["cord"] := df_mk X G (fun _ _ _ _ _ _ us hl => match us, hl with | [_], _ => rfl) a_is_one l_is_one c_is_one k_is_one
  have D_changed : Df K mg "changed" (st 2) ["cord", "strengths"] := df_mk X G (fun _ _ _ _ _ _ us hl => match us, hl with | [_, _], _ => rfl) a_changed l_changed c_changed k_changed
  have D_parted_by : Df K mg "parted_by" (st 4) ["load", "many"] := df_mk X G (fun _ _ _ _ _ _ us hl => match us, hl with | [_, _], _ => rfl) a_parted_by l_parted_by c_parted_by k_parted_by
  have D_greatest : Df K mg "greatest" (st 5) ["cord"] := df_mk X G (fun _ _ _ _ _ _ us hl => match us, hl with | [_], _ => rfl) a_greatest l_greatest c_greatest k_greatest
  have D_shares : Df K mg "shares" (st 6) ["cord", "load"] := df_mk X G (fun _ _ _ _ _ _ us hl => match us, hl with | [_, _], _ => rfl) a_shares l_shares c_shares k_shares
  have D_holding : Df K mg "holding" (st 7) ["cord", "load"] := df_mk X G (fun _ _ _ _ _ _ us hl => match us, hl with | [_, _], _ => rfl) a_holding l_holding c_holding k_holding
  have D_does : Df K mg "does" (st 9) ["cord", "load", "unknown", "name", "most"] := df_mk X G (fun _ _ _ _ _ _ us hl => match us, hl with | [_, _, _, _, _], _ => rfl) a_does l_does c_does k_does
  have D_least_of : Df K mg "least_of" (st 10) ["cord", "load", "unknown", "name"] := df_mk X G (fun _ _ _ _ _ _ us hl => match us, hl with | [_, _, _, _], _ => rfl) a_least_of l_least_of c_least_of k_least_of
  have D_strength : Df K mg "strength" (st 12) ["cord"] := df_mk X G (fun _ _ _ _ _ _ us hl => match us, hl with | [_], _ => rfl) a_strength l_strength c_strength k_strength
  have D_law_cell : Df K mg "_law_cell" (st 14) ["script", "k"] := df_mk X G (fun _ _ _ _ _ _ us hl => match us, hl with | [_, _], _ => rfl) a_law_cell l_law_cell c_law_cell k_law_cell
  have D_law_draws : Df K mg "_law_draws" (st 15) ["script", "k", "many", "base"] := df_mk X G (fun _ _ _ _ _ _ us hl => match us, hl with | [_, _, _, _], _ => rfl) a_law_draws l_law_draws c_law_draws k_law_draws
  have D_law_number : Df K mg "_law_number" (st 16) ["thing", "least", "most"] := df_mk X G (fun _ _ _ _ _ _ us hl => match us, hl with | [_, _, _], _ => rfl) a_law_number l_law_number c_law_number k_law_number
  have D_law_tied : Df K mg "_law_tied" (st 17) ["parts", "draws"] := df_mk X G (fun _ _ _ _ _ _ us hl => match us, hl with | [_, _], _ => rfl) a_law_tied l_law_tied c_law_tied k_law_tied
  have D_law_cord : Df K mg "_law_cord" (st 18) ["draws", "most"] := df_mk X G (fun _ _ _ _ _ _ us hl => match us, hl with | [_, _], _ => rfl) a_law_cord l_law_cord c_law_cord k_law_cord
  have D_law_lowest : Df K mg "_law_lowest" (st 20) ["top", "bottom"] := df_mk X G (fun _ _ _ _ _ _ us hl => match us, hl with | [_, _], _ => rfl) a_law_lowest l_law_lowest c_law_lowest k_law_lowest
  have D_law_load : Df K mg "_law_load" (st 19) ["draws", "most"] := df_mk X G (fun _ _ _ _ _ _ us hl => match us, hl with | [_, _], _ => rfl) a_law_load l_law_load c_law_load k_law_load
  have D_law_strands : Df K mg "_law_strands" (st 21) ["cord"] := df_mk X G (fun _ _ _ _ _ _ us hl => match us, hl with | [_], _ => rfl) a_law_strands l_law_strands c_law_strands k_law_strands
  have D_law_counts : Df K mg "_law_counts" (st 22) ["cord", "lot"] := df_mk X G (fun _ _ _ _ _ _ us hl => match us, hl with | [_, _], _ => rfl) a_law_counts l_law_counts c_law_counts k_law_counts
  have D_law_over : Df K mg "_law_over" (st 23) ["cord", "load", "lot"] := df_mk X G (fun _ _ _ _ _ _ us hl => match us, hl with | [_, _, _], _ => rfl) a_law_over l_law_over c_law_over k_law_over
  have D_law_held : Df K mg "_law_held" (st 24) ["cord", "load", "lot"] := df_mk X G (fun _ _ _ _ _ _ us hl => match us, hl with | [_, _, _], _ => rfl) a_law_held l_law_held c_law_held k_law_held
  have D_law_names : Df K mg "_law_names" (st 25) ["cord"] := df_mk X G (fun _ _ _ _ _ _ us hl => match us, hl with | [_], _ => rfl) a_law_names l_law_names c_law_names k_law_names
  have D_law_weak : Df K mg "_law_other" (st 26) ["cord", "name", "most"] := df_mk X G (fun _ _ _ _ _ _ us hl => match us, hl with | [_, _, _], _ => rfl) a_law_weak l_law_weak c_law_weak k_law_weak
  have D_law_does : Df K mg "_law_does" (st 27) ["cord", "load", "unknown", "name", "most"] := df_mk X G (fun _ _ _ _ _ _ us hl => match us, hl with | [_, _, _, _, _], _ => rfl) a_law_does l_law_does c_law_does k_law_does
  have FL := fun_mk (st := st 28) l_law c_law k_law
  refine ⟨PySem.W.fnOf "law" "law" (defArgs (st 28)) (defBody (st 28)) (defScope (st 28)) .none kV_law dc_law pm_law an_law cd_law ct_law, fun s v => .of_eq rfl, fun base _ _ => ?_⟩
  have O_is_one : Ok l.prog w K mg base "is_one" 1 ["cord"] false [false] m_is_one := w_is_one (k := 0) D_is_one B
  have O_changed : Ok l.prog w K mg base "changed" 25 ["cord", "strengths"] false [false, false] m_changed := r_changed D_changed B (q := 1) (O_is_one.mono (by decide)) 24
  have O_parted_by : Ok l.prog w K mg base "parted_by" 1 ["load", "many"] false [false, false] m_parted_by := w_parted_by (k := 0) D_parted_by B
  have O_greatest : Ok l.prog w K mg base "greatest" 25 ["cord"] false [false] m_greatest := r_greatest D_greatest B (q := 1) (O_is_one.mono (by decide)) 24
  have O_shares : Ok l.prog w K mg base "shares" 49 ["cord", "load"] false [false, false] m_shares := r_shares D_shares B (q := 25) (O_is_one.mono (by decide)) (O_greatest.mono (by decide)) (O_parted_by.mono (by decide)) 24
  have O_holding : Ok l.prog w K mg base "holding" 50 ["cord", "load"] false [false, false] m_holding := w_holding (k := 49) D_holding B (O_shares.mono (by decide))
  have O_does : Ok l.prog w K mg base "does" 51 ["cord", "load", "unknown", "name", "most"] false [false, false, false, false, false] m_does := w_does (k := 50) D_does B (O_changed.mono (by decide)) (O_holding.mono (by decide))
  have O_least_of : Ok l.prog w K mg base "least_of" 52 ["cord", "load", "unknown", "name"] false [false, false, false, false] m_least_of := w_least_of (k := 51) D_least_of B (O_does.mono (by decide))
  have O_strength : Ok l.prog w K mg base "strength" 26 ["cord"] false [false] m_strength := w_strength (k := 25) D_strength B (O_greatest.mono (by decide))
  have O_law_cell : Ok l.prog w K mg base "_law_cell" 1 ["script", "k"] false [false, false] m_law_cell := w_law_cell (k := 0) D_law_cell B
  have O_law_draws : Ok l.prog w K mg base "_law_draws" 2 ["script", "k", "many", "base"] false [false, false, false, false] m_law_draws := w_law_draws (k := 1) D_law_draws B (O_law_cell.mono (by decide))
  have O_law_number : Ok l.prog w K mg base "_law_number" 1 ["thing", "least", "most"] false [false, false, false] m_law_number := w_law_number (k := 0) D_law_number B
  have O_law_tied : Ok l.prog w K mg base "_law_tied" 1 ["parts", "draws"] false [false, false] m_law_tied := w_law_tied (k := 0) D_law_tied B
  have O_law_cord : Ok l.prog w K mg base "_law_cord" 2 ["draws", "most"] false [false, false] m_law_cord := w_law_cord (k := 1) D_law_cord B (O_law_tied.mono (by decide))
  have O_law_lowest : Ok l.prog w K mg base "_law_lowest" 1 ["top", "bottom"] false [false, false] m_law_lowest := w_law_lowest (k := 0) D_law_lowest B
  have O_law_load : Ok l.prog w K mg base "_law_load" 2 ["draws", "most"] false [false, false] m_law_load := w_law_load (k := 1) D_law_load B (O_law_lowest.mono (by decide))
  have O_law_strands : Ok l.prog w K mg base "_law_strands" 24 ["cord"] false [false] m_law_strands := r_law_strands D_law_strands B (q := 0) 24
  have O_law_counts : Ok l.prog w K mg base "_law_counts" 24 ["cord", "lot"] false [false, true] m_law_counts := r_law_counts D_law_counts B (q := 0) 24
  have O_law_over : Ok l.prog w K mg base "_law_over" 25 ["cord", "load", "lot"] false [false, false, true] m_law_over := w_law_over (k := 24) D_law_over B (O_law_counts.mono (by decide)) (O_law_strands.mono (by decide))
  have O_law_held : Ok l.prog w K mg base "_law_held" 26 ["cord", "load", "lot"] false [false, false, false] m_law_held := w_law_held (k := 25) D_law_held B (O_law_over.mono (by decide))
  have O_law_names : Ok l.prog w K mg base "_law_names" 25 ["cord"] true [false] m_law_names := w_law_names (k := 24) D_law_names B (O_law_strands.mono (by decide))
  have O_law_weak : Ok l.prog w K mg base "_law_other" 24 ["cord", "name", "most"] false [false, false, false] m_law_weak := r_law_weak D_law_weak B (q := 0) 24
  have O_law_does : Ok l.prog w K mg base "_law_does" 27 ["cord", "load", "unknown", "name", "most"] false [false, false, false, false, false] m_law_does := w_law_does (k := 26) D_law_does B (O_law_weak.mono (by decide)) (O_law_names.mono (by decide)) (O_law_held.mono (by decide))
  exact w_law (k := 52) FL B (O_law_draws.mono (by decide)) (O_law_cord.mono (by decide)) (O_law_names.mono (by decide)) (O_strength.mono (by decide)) (O_law_load.mono (by decide)) (O_least_of.mono (by decide)) (O_law_does.mono (by decide)) (O_law_number.mono (by decide))
end Wk
open PySem PySem.W PyProof.Rows
set_option maxRecDepth 100000 in
set_option maxHeartbeats 0 in
theorem PySem.Challenge.cw_sharecords_k09_unknown_strands_holds : PySem.Challenge.rw_sharecords_k09_unknown_strands.Holds := by
  w_on; o_law; k_head; (case hw => w_witness2)
  k_fill
  refine L2.walk_of (l := PySem.Challenge.rw_sharecords_k09_unknown_strands) (n := 63) (k := 53) (x := "script") (CX := fun _ => L2.CX0) (sp := fun w => Pu.spQ _ false [false] Mi.m_law) rfl (by decide) rfl ⟨rfl, by decide, by decide⟩ (fun w h Y => PySem.W.kIn_of Y) ?F (fun _ _ a ns hl _ hS => Pu.law_sp hS (Fact.law_true ns hl)) (fun _ _ _ _ _ h => h)
  case F =>
    intro w mg fa h KX G hmg
    refine' Wk.all_mk KX G hmg ?a_is_one ?l_is_one ?c_is_one ?k_is_one ?a_changed ?l_changed ?c_changed ?k_changed ?a_parted_by ?l_parted_by ?c_parted_by ?k_parted_by ?a_greatest ?l_greatest ?c_greatest ?k_greatest ?a_shares ?l_shares ?c_shares ?k_shares ?a_holding ?l_holding ?c_holding ?k_holding ?a_does ?l_does ?c_does ?k_does ?a_least_of ?l_least_of ?c_least_of ?k_least_of ?a_strength ?l_strength ?c_strength ?k_strength ?a_law_cell ?l_law_cell ?c_law_cell ?k_law_cell ?a_law_draws ?l_law_draws ?c_law_draws ?k_law_draws ?a_law_number ?l_law_number ?c_law_number ?k_law_number ?a_law_tied ?l_law_tied ?c_law_tied ?k_law_tied ?a_law_cord ?l_law_cord ?c_law_cord ?k_law_cord ?a_law_lowest ?l_law_lowest ?c_law_lowest ?k_law_lowest ?a_law_load ?l_law_load ?c_law_load ?k_law_load ?a_law_strands ?l_law_strands ?c_law_strands ?k_law_strands ?a_law_counts ?l_law_counts ?c_law_counts ?k_law_counts ?a_law_over ?l_law_over ?c_law_over ?k_law_over ?a_law_held ?l_law_held ?c_law_held ?k_law_held ?a_law_names ?l_law_names ?c_law_names ?k_law_names ?a_law_weak ?l_law_weak ?c_law_weak ?k_law_weak ?a_law_does ?l_law_does ?c_law_does ?k_law_does ?a_law ?l_law ?c_law ?k_law ?z_len ?z_isinstance ?z_int ?z_bool ?z_str ?z_tuple ?z_list ?z_sum ?z_max ?z_min ?z_all ?z_any ?z_sorted ?z_range ?z_enumerate ?z_zip ?z_set ?z_dict
    (case a_is_one => k_is); (case l_is_one => k_is); (case c_is_one => k_is); (case k_is_one => k_is)
    (case a_changed => k_is); (case l_changed => k_is); (case c_changed => k_is); (case k_changed => k_is)
    (case a_parted_by => k_is); (case l_parted_by => k_is); (case c_parted_by => k_is); (case k_parted_by => k_is)
    (case a_greatest => k_is); (case l_greatest => k_is); (case c_greatest => k_is); (case k_greatest => k_is)
    (case a_shares => k_is); (case l_shares => k_is); (case c_shares => k_is); (case k_shares => k_is)
    (case a_holding => k_is); (case l_holding => k_is); (case c_holding => k_is); (case k_holding => k_is)
    (case a_does => k_is); (case l_does => k_is); (case c_does => k_is); (case k_does => k_is)
    (case a_least_of => k_is); (case l_least_of => k_is); (case c_least_of => k_is); (case k_least_of => k_is)
    (case a_strength => k_is); (case l_strength => k_is); (case c_strength => k_is); (case k_strength => k_is)
    (case a_law_cell => k_is); (case l_law_cell => k_is); (case c_law_cell => k_is); (case k_law_cell => k_is)
    (case a_law_draws => k_is); (case l_law_draws => k_is); (case c_law_draws => k_is); (case k_law_draws => k_is)
    (case a_law_number => k_is); (case l_law_number => k_is); (case c_law_number => k_is); (case k_law_number => k_is)
    (case a_law_tied => k_is); (case l_law_tied => k_is); (case c_law_tied => k_is); (case k_law_tied => k_is)
    (case a_law_cord => k_is); (case l_law_cord => k_is); (case c_law_cord => k_is); (case k_law_cord => k_is)
    (case a_law_lowest => k_is); (case l_law_lowest => k_is); (case c_law_lowest => k_is); (case k_law_lowest => k_is)
    (case a_law_load => k_is); (case l_law_load => k_is); (case c_law_load => k_is); (case k_law_load => k_is)
    (case a_law_strands => k_is); (case l_law_strands => k_is); (case c_law_strands => k_is); (case k_law_strands => k_is)
    (case a_law_counts => k_is); (case l_law_counts => k_is); (case c_law_counts => k_is); (case k_law_counts => k_is)
    (case a_law_over => k_is); (case l_law_over => k_is); (case c_law_over => k_is); (case k_law_over => k_is)
    (case a_law_held => k_is); (case l_law_held => k_is); (case c_law_held => k_is); (case k_law_held => k_is)
    (case a_law_names => k_is); (case l_law_names => k_is); (case c_law_names => k_is); (case k_law_names => k_is)
    (case a_law_weak => k_is); (case l_law_weak => k_is); (case c_law_weak => k_is); (case k_law_weak => k_is)
    (case a_law_does => k_is); (case l_law_does => k_is); (case c_law_does => k_is); (case k_law_does => k_is)
    (case a_law => k_is); (case l_law => k_is); (case c_law => k_is); (case k_law => k_is)
    (case z_len => k_is)
    (case z_isinstance => k_is)
    (case z_int => k_is)
    (case z_bool => k_is)
    (case z_str => k_is)
    (case z_tuple => k_is)
    (case z_list => k_is)
    (case z_sum => k_is)
    (case z_max => k_is)
    (case z_min => k_is)
    (case z_all => k_is)
    (case z_any => k_is)
    (case z_sorted => k_is)
    (case z_range => k_is)
    (case z_enumerate => k_is)
    (case z_zip => k_is)
    (case z_set => k_is)
    (case z_dict => k_is)
