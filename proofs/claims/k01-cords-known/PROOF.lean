import PyProof.Rows.All
import Wide.All
import OpenK.AllK
import Wide.FinOn
import HandS.ForMost
import HandS.SortOrd
import HandS.Deep
import HandS.Wide
import HandS.TupAny
import HandS.TupLe
import HandS.IsInst
import HandS.DictComp
import HandS.Style
import HandS.SortInts
import HandS.SortKw
import HandS.Zip
import HandS.Strs
import KE.GoesEnum
import KE.GoesZip
import PySem.Challenge.RW_sharecords_k01_cords_known
set_option Elab.async false
set_option linter.all false
set_option maxRecDepth 100000
/-! Pure values, program states, combinators: the target of the walk. -/
namespace Pu
open PySem

abbrev D := PySem.PyData

/-- a slot of a def's frame: unset; a value that never changes again; a list or dict that only this slot holds; a list lent by the caller -/
inductive Slot where
  | no
  | val (d : D)
  | own (d : D)
  | bor (d : D)
abbrev Rho := List Slot
inductive Out where
  | nx (r : Rho)
  | rt (d : D)
abbrev F1 := Rho → Option D
abbrev FB := Rho → Option Bool
abbrev FA := Rho → Option (List D)
abbrev G := Rho → Option Out
abbrev Fn := List D → Option D

def atR : Rho → Nat → Slot
  | [], _ => .no
  | s :: _, 0 => s
  | _ :: r, n + 1 => atR r n
def isCon : D → Bool
  | .list _ => true
  | .dict _ => true
  | _ => false

/-! ### leaves -/
def fVar (i : Nat) : F1 := fun ρ => match atR ρ i with
  | .val d => some d
  | .bor d => if isCon d then none else some d
  | _ => none
def bVar (i : Nat) : F1 := fun ρ => match atR ρ i with
  | .val d => some d
  | .bor d => some d
  | .own d => some d
  | .no => none
def fK (d : D) : F1 := fun _ => some d
def f1 (op : D → Option D) (a : F1) : F1 := fun ρ => (a ρ).bind op
def f2 (op : D → D → Option D) (a b : F1) : F1 := fun ρ => (a ρ).bind fun x => (b ρ).bind fun y => op x y

/-! ### no dict within -/
mutual
def noDict : D → Bool
  | .dict _ => false
  | .list ds => noDicts ds
  | .tuple ds => noDicts ds
  | .none => true
  | .bool _ => true
  | .int _ => true
  | .str _ => true
def noDicts : List D → Bool
  | [] => true
  | d :: ds => noDict d && noDicts ds
end
def flatD : D → Bool
  | .none => true
  | .bool _ => true
  | .int _ => true
  | .str _ => true
  | _ => false

/-! ### sizes -/
def fitsL (n : Nat) : Bool := decide (n ≤ sizeLine)
def mulOk (i j : Int) : Bool := decide (i.natAbs < 18446744073709551616) || decide (j.natAbs < 18446744073709551616)

/-! ### operators -/
def addD : D → D → Option D
  | .int i, .int j => some (.int (i + j))
  | .list a, .list b => if fitsL (a.length + b.length) then some (.list (a ++ b)) else none
  | .tuple a, .tuple b => if fitsL (a.length + b.length) then some (.tuple (a ++ b)) else none
  | _, _ => none
def subD : D → D → Option D
  | .int i, .int j => some (.int (i - j))
  | _, _ => none
def mulD : D → D → Option D
  | .int i, .int j => if mulOk i j then some (.int (i * j)) else none
  | _, _ => none
def divOk (j : Int) : Bool := decide (0 < j) && decide (j.natAbs < 18446744073709551616)
def divD : D → D → Option D
  | .int i, .int j => if divOk j then some (.int (i / j)) else none
  | _, _ => none
def modD : D → D → Option D
  | .int i, .int j => if decide (0 < j) then some (.int (i % j)) else none
  | _, _ => none
def powD : D → D → Option D
  | .int i, .int j => if decide (0 ≤ j) && decide (j ≤ 1000) && decide (i.natAbs < 18446744073709551616) then some (.int (i ^ j.toNat)) else none
  | _, _ => none
def negD : D → Option D
  | .int i => some (.int (-i))
  | _ => none
def notD : D → Option D
  | .bool b => some (.bool (!b))
  | _ => none

/-! ### comparisons -/
def strLt (x y : Str) : Bool := decide (x.cps.toList < y.cps.toList)
def ltD : D → D → Option D
  | .int i, .int j => some (.bool (decide (i < j)))
  | .str x, .str y => some (.bool (strLt x y))
  | _, _ => none
def leD : D → D → Option D
  | .int i, .int j => some (.bool (decide (i ≤ j)))
  | _, _ => none
def gtD : D → D → Option D
  | .int i, .int j => some (.bool (decide (j < i)))
  | _, _ => none
def geD : D → D → Option D
  | .int i, .int j => some (.bool (decide (j ≤ i)))
  | _, _ => none
def eqOk (x y : D) : Bool := noDict x && noDict y && decide (min x.depth y.depth ≤ 64)
/-- a dict whose keys are ints and texts (one with tuples as keys bears a mark ahead) -/
def notT : List (D × D) → Bool
  | (.none, _) :: _ => false
  | _ => true
/-- == : one of two dicts is empty -/
def eqB : D → D → Option Bool
  | .dict a, .dict b => if notT a && notT b && (a.isEmpty || b.isEmpty) then some (a.isEmpty && b.isEmpty) else none
  | x, y => if eqOk x y then some (PyData.eqv x y) else none
def eqD (x y : D) : Option D := (eqB x y).map .bool
def neD (x y : D) : Option D := (eqB x y).map fun b => .bool (!b)
def isNoneD : D → Option D
  | .none => some (.bool true)
  | _ => some (.bool false)
def notNoneD : D → Option D
  | .none => some (.bool false)
  | _ => some (.bool true)
def isD : D → D → Option D
  | .bool a, .bool b => some (.bool (decide (a = b)))
  | _, _ => none
def isntD : D → D → Option D
  | .bool a, .bool b => some (.bool (!decide (a = b)))
  | _, _ => none
def keyOk : D → Bool
  | .int _ => true
  | .str _ => true
  | _ => false
def inL (x : D) (ds : List D) : Bool := ds.any fun z => PyData.eqv z x
def hasK (kvs : List (D × D)) (k : D) : Bool := kvs.any fun kv => PyData.eqv kv.1 k
def inB : D → D → Option Bool
  | x, .list ds => if (flatD x && ds.all flatD) || (noDict x && noDicts ds && decide (x.depth ≤ 64) && decide ((PyData.list ds).depth ≤ 64)) then some (inL x ds) else none
  | x, .tuple ds => if flatD x && ds.all flatD then some (inL x ds) else none
  | .str x, .str y => some (!(Builtin.Str.occurrences y x 0 y.length 1).isEmpty)
  | x, .dict kvs => if keyOk x && notT kvs then some (hasK kvs x) else none
  | _, _ => none
def inD (x y : D) : Option D := (inB x y).map .bool
def notInD (x y : D) : Option D := (inB x y).map fun b => .bool (!b)

/-! ### subscripts, slices -/
def getK (kvs : List (D × D)) (k : D) : Option D := (kvs.find? fun kv => PyData.eqv kv.1 k).map (·.2)
def ixD : D → D → Option D
  | .list ds, .int i => L2.atI ds i
  | .tuple ds, .int i => L2.atI ds i
  | .dict kvs, k => if keyOk k && notT kvs then getK kvs k else none
  | _, _ => none
def cutL {α : Type} (xs : List α) (lo hi : Option Int) : List α := (xs.drop (HT.sIx xs.length 0 lo)).take (HT.sIx xs.length xs.length hi - HT.sIx xs.length 0 lo)
/-- an optional part of a slice -/
def partO : Option F1 → Rho → Option (Option Int)
  | none, _ => some none
  | some f, ρ => match f ρ with
    | some (.int i) => some (some i)
    | _ => none
def cutD (lo hi : Option Int) : D → Option D
  | .list ds => some (.list (cutL ds lo hi))
  | .tuple ds => some (.tuple (cutL ds lo hi))
  | _ => none
def fCut (a : F1) (lo hi : Option F1) : F1 := fun ρ => (a ρ).bind fun x => (partO lo ρ).bind fun l => (partO hi ρ).bind fun h => cutD l h x
def revD : D → Option D
  | .list ds => some (.list ds.reverse)
  | .tuple ds => some (.tuple ds.reverse)
  | _ => none

/-! ### displays, calls -/
def fArgs : List F1 → FA
  | [], _ => some []
  | f :: fs, ρ => (f ρ).bind fun d => (fArgs fs ρ).bind fun ds => some (d :: ds)
def fTup (fs : List F1) : F1 := fun ρ => (fArgs fs ρ).map .tuple
def fLst (fs : List F1) : F1 := fun ρ => (fArgs fs ρ).map .list
def fCall (m : Fn) (fs : List F1) : F1 := fun ρ => (fArgs fs ρ).bind m
def fB (m : Fn) (fs : List F1) : F1 := fCall m fs

def lenD : D → Option D
  | .list ds => some (.int ds.length)
  | .tuple ds => some (.int ds.length)
  | .str x => if fitsL x.length then some (.int x.length) else none
  | _ => none
def intsL : List D → Option (List Int)
  | [] => some []
  | .int i :: r => (intsL r).map (i :: ·)
  | _ :: _ => none
def strsL : List D → Option (List Str)
  | [] => some []
  | .str i :: r => (strsL r).map (i :: ·)
  | _ :: _ => none
def boolsL : List D → Option (List Bool)
  | [] => some []
  | .bool i :: r => (boolsL r).map (i :: ·)
  | _ :: _ => none
def maxI : List Int → Option Int
  | [] => none
  | [a] => some a
  | a :: r => (maxI r).map fun m => max a m
def minI : List Int → Option Int
  | [] => none
  | [a] => some a
  | a :: r => (minI r).map fun m => min a m
def max2D : D → D → Option D
  | .int i, .int j => some (.int (max i j))
  | _, _ => none
def min2D : D → D → Option D
  | .int i, .int j => some (.int (min i j))
  | _, _ => none
def maxD : D → Option D
  | .list ds => ((intsL ds).bind maxI).map .int
  | _ => none
def minD : D → Option D
  | .list ds => ((intsL ds).bind minI).map .int
  | _ => none
def sumD : D → Option D
  | .list ds => (intsL ds).map fun ns => .int ns.sum
  | _ => none
def allD : D → Option D
  | .list ds => (boolsL ds).map fun bs => .bool (bs.all id)
  | _ => none
def anyD : D → Option D
  | .list ds => (boolsL ds).map fun bs => .bool (bs.any id)
  | _ => none
def tupD : D → Option D
  | .list ds => some (.tuple ds)
  | .tuple ds => some (.tuple ds)
  | _ => none
def lstD : D → Option D
  | .list ds => some (.list ds)
  | .tuple ds => some (.list ds)
  | _ => none
def boolD : D → Option D
  | .int i => some (.bool (i != 0))
  | .bool b => some (.bool b)
  | _ => none
def intD : D → Option D
  | .int i => some (.int i)
  | .bool b => some (.int (if b then 1 else 0))
  | _ => none
/-- isinstance: the types that are asked of -/
inductive Ty where
  | int | bool | str | tuple | list | seq
def isT : Ty → D → Bool
  | .int, .int _ => true
  | .int, .bool _ => true
  | .bool, .bool _ => true
  | .str, .str _ => true
  | .tuple, .tuple _ => true
  | .list, .list _ => true
  | .seq, .list _ => true
  | .seq, .tuple _ => true
  | _, _ => false
def isInst (t : Ty) : D → Option D
  | .dict _ => none
  | d => some (.bool (isT t d))
/-- built-ins by their arguments -/
def m1 (op : D → Option D) : Fn
  | [d] => op d
  | _ => none
def m2 (op : D → D → Option D) : Fn
  | [d, e] => op d e
  | _ => none
def m3 (op : D → D → D → Option D) : Fn
  | [a, b, c] => op a b c
  | _ => none

/-- what a set of such things holds -/
def metD : List D → List D
  | ds => ds.foldl (fun seen d => if inL d seen then seen else seen ++ [d]) []
def lenSetD : D → Option D
  | .list ds => if ds.all keyOk && decide (ds.length < 4000) then some (.int (metD ds).length) else none
  | .tuple ds => if ds.all keyOk && decide (ds.length < 4000) then some (.int (metD ds).length) else none
  | _ => none

/-! ### and, or, if -/
def fAnd (a b : F1) : F1 := fun ρ => match a ρ with
  | some (.bool true) => b ρ
  | some (.bool false) => some (.bool false)
  | _ => none
def fOr (a b : F1) : F1 := fun ρ => match a ρ with
  | some (.bool false) => b ρ
  | some (.bool true) => some (.bool true)
  | _ => none
def tOf (a : F1) : FB := fun ρ => match a ρ with
  | some (.bool b) => some b
  | _ => none
def tAnd (a b : FB) : FB := fun ρ => (a ρ).bind fun x => if x then b ρ else some false
def tOr (a b : FB) : FB := fun ρ => (a ρ).bind fun x => if x then some true else b ρ
def tNot (a : FB) : FB := fun ρ => (a ρ).map not
def tYes : FB := fun _ => some true
def fIf (t : FB) (a b : F1) : F1 := fun ρ => (t ρ).bind fun x => if x then a ρ else b ρ
/-- a < b < c -/
def fChain (o1 o2 : D → D → Option D) (a b c : F1) : F1 := fun ρ => (a ρ).bind fun x => (b ρ).bind fun y => match o1 x y with
  | some (.bool true) => (c ρ).bind fun z => o2 y z
  | some (.bool false) => some (.bool false)
  | _ => none

/-! ### what is walked -/
def sSeq (a : F1) : FA := fun ρ => match a ρ with
  | some (.list ds) => some ds
  | some (.tuple ds) => some ds
  | some (.str x) => some (x.cps.toList.map fun c => .str ⟨#[c]⟩)
  | some (.dict kvs) => if notT kvs then some (kvs.map (·.1)) else none
  | _ => none
def numFrom : Nat → List D → List D
  | _, [] => []
  | n, d :: ds => .tuple [.int n, d] :: numFrom (n + 1) ds
def seqD : D → Option (List D)
  | .list ds => some ds
  | .tuple ds => some ds
  | _ => none
def zipL : List D → List D → List D
  | x :: xs, y :: ys => .tuple [x, y] :: zipL xs ys
  | _, _ => []
def sZip (a b : F1) : FA := fun ρ => ((a ρ).bind seqD).bind fun xs => ((b ρ).bind seqD).map fun ys => zipL xs ys
def sItems (a : F1) : FA := fun ρ => match a ρ with
  | some (.dict kvs) => if notT kvs then some (kvs.map fun kv => .tuple [kv.1, kv.2]) else none
  | _ => none
def rngL : Nat → Int → List D
  | 0, _ => []
  | n + 1, lo => .int lo :: rngL n (lo + 1)
def smallI (i : Int) : Bool := decide (-4611686018427387904 ≤ i) && decide (i < 4611686018427387904)
def sRng (a : F1) : FA := fun ρ => match a ρ with
  | some (.int j) => if smallI j then some (rngL j.toNat 0) else none
  | _ => none
def sRng2 (a b : F1) : FA := fun ρ => match a ρ, b ρ with
  | some (.int i), some (.int j) => if smallI i && smallI j then some (rngL (j - i).toNat i) else none
  | _, _ => none

/-! ### targets -/
abbrev TgF := D → Rho → Option Rho
def gN (i : Nat) : TgF := fun d ρ => some (ρ.set i (.val d))
def gT2 (i j : Nat) : TgF := fun d ρ => match d with
  | .tuple [x, y] => some ((ρ.set i (.val x)).set j (.val y))
  | _ => none
def gT3 (i j k : Nat) : TgF := fun d ρ => match d with
  | .tuple [x, y, z] => some (((ρ.set i (.val x)).set j (.val y)).set k (.val z))
  | _ => none

/-! ### comprehensions -/
def wipeR (ρ : Rho) : List Nat → Rho
  | [] => ρ
  | v :: vs => (wipeR ρ vs).set v .no
/-- all that a comprehension makes of its items -/
def compL (tg : TgF) (t : FB) (e : F1) (ρ : Rho) : List D → Option (List D)
  | [] => some []
  | d :: ds => (tg d ρ).bind fun ρ1 => (t ρ1).bind fun b =>
    if b then (e ρ1).bind fun y => (compL tg t e ρ ds).bind fun r => some (y :: r) else compL tg t e ρ ds
def fLc (vs : List Nat) (src : FA) (tg : TgF) (t : FB) (e : F1) : F1 := fun ρ => (src ρ).bind fun ds => (compL tg t e (wipeR ρ vs) ds).bind fun r =>
  if fitsL r.length then some (.list r) else none
/-- two fors -/
def compL2 (tg : TgF) (t : FB) (vs1 : List Nat) (src1 : FA) (tg1 : TgF) (t1 : FB) (e : F1) (ρ : Rho) : List D → Option (List D)
  | [] => some []
  | d :: ds => (tg d ρ).bind fun ρ1 => (t ρ1).bind fun b =>
    if b then (src1 ρ1).bind fun ds1 => (compL tg1 t1 e (wipeR ρ1 vs1) ds1).bind fun r1 => (compL2 tg t vs1 src1 tg1 t1 e ρ ds).bind fun r => some (r1 ++ r)
    else compL2 tg t vs1 src1 tg1 t1 e ρ ds
def fLc2 (vs : List Nat) (src : FA) (tg : TgF) (t : FB) (vs1 : List Nat) (src1 : FA) (tg1 : TgF) (t1 : FB) (e : F1) : F1 := fun ρ => (src ρ).bind fun ds =>
  (compL2 tg t vs1 src1 tg1 t1 e (wipeR ρ vs) ds).bind fun r => if fitsL r.length then some (.list r) else none

/-! ### dicts -/
def putK (kvs : List (D × D)) (k v : D) : List (D × D) := if hasK kvs k then kvs.map (fun kv => if PyData.eqv kv.1 k then (kv.1, v) else kv) else kvs ++ [(k, v)]
def mergeK (kvs more : List (D × D)) : List (D × D) := more.foldl (fun acc kv => putK acc kv.1 kv.2) kvs

/-! ### statements -/
def gSeq (g h : G) : G := fun ρ => (g ρ).bind fun o => match o with
  | .nx ρ' => h ρ'
  | .rt d => some (.rt d)
def gSkip : G := fun ρ => some (.nx ρ)
def gSet (i : Nat) (f : F1) : G := fun ρ => (f ρ).map fun d => .nx (ρ.set i (.val d))
/-- a new list or dict, held by the slot alone -/
def gOwn (i : Nat) (f : F1) : G := fun ρ => (f ρ).map fun d => .nx (ρ.set i (.own d))
def gAsg (f : F1) (tg : TgF) : G := fun ρ => (f ρ).bind fun d => (tg d ρ).map .nx
def gRet (f : F1) : G := fun ρ => (f ρ).map .rt
def gIf (t : FB) (a b : G) : G := fun ρ => (t ρ).bind fun x => if x then a ρ else b ρ
def forL (tg : TgF) (body : G) : List D → G
  | [], ρ => some (.nx ρ)
  | d :: ds, ρ => (tg d ρ).bind fun ρ1 => (body ρ1).bind fun o => match o with
    | .nx ρ2 => forL tg body ds ρ2
    | .rt r => some (.rt r)
def gFor (src : FA) (tg : TgF) (body : G) : G := fun ρ => (src ρ).bind fun ds => forL tg body ds ρ
def whileN (t : FB) (body : G) : Nat → G
  | 0, _ => none
  | n + 1, ρ => (t ρ).bind fun b => if b then (body ρ).bind fun o => match o with
      | .nx ρ2 => whileN t body n ρ2
      | .rt r => some (.rt r)
    else some (.nx ρ)
def gWhile (n : Nat) (t : FB) (body : G) : G := whileN t body n
/-- from here on the slot's list is a value -/
def gFrz (i : Nat) (g : G) : G := fun ρ => match atR ρ i with
  | .own d => g (ρ.set i (.val d))
  | _ => none
def gApp (i : Nat) (f : F1) : G := fun ρ => (f ρ).bind fun y => match atR ρ i with
  | .own (.list ds) => if decide (ds.length < sizeLine) then some (.nx (ρ.set i (.own (.list (ds ++ [y]))))) else none
  | _ => none
/-- the def's end -/
def endD : Out → D
  | .rt d => d
  | .nx _ => .none
def pad (n : Nat) (ss : List Slot) : Rho := ss ++ List.replicate (n - ss.length) .no
def run (g : G) (n : Nat) (ss : List Slot) : Option D := (g (pad n ss)).map endD
end Pu
set_option maxRecDepth 100000
/-! Pure data as it stands in the abstract heap; what an expression's mirror promises. -/
namespace Pu
open PySem PySem.Spec PyProof.Rows L2

def keyD : L2.Key → D
  | .inl i => .int i
  | .inr x => .str x
mutual
/-- the value v stands for the datum d, by the objects of F -/
inductive Rep (K : PySem.W.Frag) (F : Hp) : V → D → Prop
  | non : Rep K F .non .none
  | bl (b : Bool) : Rep K F (.bl b) (.bool b)
  | int (i : Int) : Rep K F (.int i) (.int i)
  | str (x : Str) : PyData.strOk x = true → Rep K F (.str x) (.str x)
  | lst {a : Addr} {xs : List V} {ds : List D} : SqL K F a xs → Reps K F xs ds → Rep K F (.ref a) (.list ds)
  | tup {a : Addr} {xs : List V} {ds : List D} : F a = some (.tup xs) → Reps K F xs ds → Rep K F (.ref a) (.tuple ds)
  | dK {a : Addr} {o : Obj} {kvs : List (L2.Key × V)} {ds : List (D × D)} : F a = some (.frz o (.dK kvs)) → RepK K F kvs ds → Rep K F (.ref a) (.dict ds)
  | dT {a : Addr} {o : Obj} {kvs : List (List L2.Key × V)} {ds : List (D × D)} : F a = some (.frz o (.dT kvs)) → RepT K F kvs ds → Rep K F (.ref a) (.dict ((.none, .none) :: ds))
inductive Reps (K : PySem.W.Frag) (F : Hp) : List V → List D → Prop
  | nil : Reps K F [] []
  | cons {v : V} {vs : List V} {d : D} {ds : List D} : Rep K F v d → Reps K F vs ds → Reps K F (v :: vs) (d :: ds)
inductive RepK (K : PySem.W.Frag) (F : Hp) : List (L2.Key × V) → List (D × D) → Prop
  | nil : RepK K F [] []
  | cons {k : L2.Key} {v : V} {kvs : List (L2.Key × V)} {d : D} {ds : List (D × D)} : Rep K F (kV k) (keyD k) → Rep K F v d → RepK K F kvs ds → RepK K F ((k, v) :: kvs) ((keyD k, d) :: ds)
inductive RepT (K : PySem.W.Frag) (F : Hp) : List (List L2.Key × V) → List (D × D) → Prop
  | nil : RepT K F [] []
  | cons {k : List L2.Key} {v : V} {kvs : List (List L2.Key × V)} {d : D} {ds : List (D × D)} : Reps K F (k.map kV) (k.map keyD) → Rep K F v d → RepT K F kvs ds → RepT K F ((k, v) :: kvs) ((.tuple (k.map keyD), d) :: ds)
end

theorem Rd.mono {F F' : Hp} {a : Addr} {u : HO} (e : Same F F') (h : Rd F a u) : Rd F' a u := by
  rcases h with h | ⟨o, h⟩
  · exact .inl (e _ _ h)
  · exact .inr ⟨o, e _ _ h⟩
theorem SqT.mono {K : PySem.W.Frag} {F F' : Hp} {a : Addr} {xs : List V} (e : Same F F') (h : SqT K F a xs) : SqT K F' a xs := by
  rcases h with h | h
  · exact .inl (Rd.mono e h)
  · exact .inr h
mutual
theorem Rep.mono {K : PySem.W.Frag} {F F' : Hp} (e : Same F F') : ∀ {v : V} {d : D}, Rep K F v d → Rep K F' v d
  | _, _, .non => .non
  | _, _, .bl b => .bl b
  | _, _, .int i => .int i
  | _, _, .str x h => .str x h
  | _, _, .lst h r => .lst (e.seq h) (Reps.mono e r)
  | _, _, .tup h r => .tup (e _ _ h) (Reps.mono e r)
  | _, _, .dK h r => .dK (e _ _ h) (RepK.mono e r)
  | _, _, .dT h r => .dT (e _ _ h) (RepT.mono e r)
theorem Reps.mono {K : PySem.W.Frag} {F F' : Hp} (e : Same F F') : ∀ {v : List V} {d : List D}, Reps K F v d → Reps K F' v d
  | _, _, .nil => .nil
  | _, _, .cons h r => .cons (Rep.mono e h) (Reps.mono e r)
theorem RepK.mono {K : PySem.W.Frag} {F F' : Hp} (e : Same F F') : ∀ {v : List (L2.Key × V)} {d : List (D × D)}, RepK K F v d → RepK K F' v d
  | _, _, .nil => .nil
  | _, _, .cons k h r => .cons (Rep.mono e k) (Rep.mono e h) (RepK.mono e r)
theorem RepT.mono {K : PySem.W.Frag} {F F' : Hp} (e : Same F F') : ∀ {v : List (List L2.Key × V)} {d : List (D × D)}, RepT K F v d → RepT K F' v d
  | _, _, .nil => .nil
  | _, _, .cons k h r => .cons (Reps.mono e k) (Rep.mono e h) (RepT.mono e r)
end
section
variable {K : PySem.W.Frag} {F F' : Hp}
theorem Reps.length : ∀ {xs : List V} {ds : List D}, Reps K F xs ds → xs.length = ds.length
  | _, _, .nil => rfl
  | _, _, .cons _ r => congrArg (· + 1) (Reps.length r)
theorem Reps.append : ∀ {xs ys : List V} {ds es : List D}, Reps K F xs ds → Reps K F ys es → Reps K F (xs ++ ys) (ds ++ es)
  | _, _, _, _, .nil, h => h
  | _, _, _, _, .cons a r, h => .cons a (Reps.append r h)
theorem Reps.get : ∀ {xs : List V} {ds : List D} {i : Nat} {d : D}, Reps K F xs ds → ds[i]? = some d → ∃ x, xs[i]? = some x ∧ Rep K F x d
  | _, _, _, _, .nil, h => by simp at h
  | _, _, 0, _, .cons a r, h => by simp at h; subst h; exact ⟨_, rfl, a⟩
  | _, _, i + 1, _, .cons a r, h => by
    obtain ⟨x, h1, h2⟩ := Reps.get (i := i) r (by simpa using h)
    exact ⟨x, by simpa using h1, h2⟩
theorem Reps.getV : ∀ {xs : List V} {ds : List D} {i : Nat} {x : V}, Reps K F xs ds → xs[i]? = some x → ∃ d, ds[i]? = some d ∧ Rep K F x d
  | _, _, _, _, .nil, h => by simp at h
  | _, _, 0, _, .cons a r, h => by simp at h; subst h; exact ⟨_, rfl, a⟩
  | _, _, i + 1, _, .cons a r, h => by
    obtain ⟨x, h1, h2⟩ := Reps.getV (i := i) r (by simpa using h)
    exact ⟨x, by simpa using h1, h2⟩
theorem Reps.take : ∀ {xs : List V} {ds : List D} (n : Nat), Reps K F xs ds → Reps K F (xs.take n) (ds.take n)
  | _, _, 0, _ => by simpa using .nil
  | _, _, _ + 1, .nil => .nil
  | _, _, n + 1, .cons a r => .cons a (Reps.take n r)
theorem Reps.drop : ∀ {xs : List V} {ds : List D} (n : Nat), Reps K F xs ds → Reps K F (xs.drop n) (ds.drop n)
  | _, _, 0, r => by simpa using r
  | _, _, _ + 1, .nil => .nil
  | _, _, n + 1, .cons a r => Reps.drop n r
theorem Reps.snoc {xs : List V} {ds : List D} {x : V} {d : D} (r : Reps K F xs ds) (h : Rep K F x d) : Reps K F (xs ++ [x]) (ds ++ [d]) := r.append (.cons h .nil)
theorem Reps.reverse : ∀ {xs : List V} {ds : List D}, Reps K F xs ds → Reps K F xs.reverse ds.reverse
  | _, _, .nil => .nil
  | _, _, .cons a r => by rw [List.reverse_cons, List.reverse_cons]; exact (Reps.reverse r).snoc a
theorem Reps.set : ∀ {xs : List V} {ds : List D} {x : V} {d : D} (i : Nat), Reps K F xs ds → Rep K F x d → Reps K F (xs.set i x) (ds.set i d)
  | _, _, _, _, _, .nil, _ => .nil
  | _, _, _, _, 0, .cons _ r, h => .cons h r
  | _, _, _, _, i + 1, .cons a r, h => .cons a (Reps.set i r h)
theorem Reps.cut {xs : List V} {ds : List D} (r : Reps K F xs ds) (lo hi : Option Int) : Reps K F (cutV xs lo hi) (cutL ds lo hi) := by
  unfold cutV cutL
  rw [r.length]
  exact Reps.take _ (Reps.drop _ r)
theorem Reps.intsL : ∀ {xs : List V} {ds : List D} {ns : List Int}, Reps K F xs ds → Pu.intsL ds = some ns → xs = ns.map V.int
  | _, _, _, .nil, h => by cases h; rfl
  | _, _, _, .cons (d := d) a r, h => by
    cases a <;> simp only [Pu.intsL] at h <;> first | (cases h; done) | skip
    obtain ⟨ms, h1, h2⟩ := Option.map_eq_some_iff.mp h
    subst h2
    rw [Reps.intsL r h1]; rfl
theorem Reps.strsL : ∀ {xs : List V} {ds : List D} {ns : List Str}, Reps K F xs ds → Pu.strsL ds = some ns → xs = ns.map V.str
  | _, _, _, .nil, h => by cases h; rfl
  | _, _, _, .cons (d := d) a r, h => by
    cases a <;> simp only [Pu.strsL] at h <;> first | (cases h; done) | skip
    obtain ⟨ms, h1, h2⟩ := Option.map_eq_some_iff.mp h
    subst h2
    rw [Reps.strsL r h1]; rfl
theorem Reps.boolsL : ∀ {xs : List V} {ds : List D} {ns : List Bool}, Reps K F xs ds → Pu.boolsL ds = some ns → xs = ns.map V.bl
  | _, _, _, .nil, h => by cases h; rfl
  | _, _, _, .cons (d := d) a r, h => by
    cases a <;> simp only [Pu.boolsL] at h <;> first | (cases h; done) | skip
    obtain ⟨ms, h1, h2⟩ := Option.map_eq_some_iff.mp h
    subst h2
    rw [Reps.boolsL r h1]; rfl

/-! ### data without dicts, for == -/
mutual
theorem Rep.dp : ∀ {v : V} {d : D}, Rep K F v d → noDict d = true → Dp K F v d
  | _, _, .non, _ => .non
  | _, _, .bl b, _ => .bl b
  | _, _, .int i, _ => .int i
  | _, _, .str x _, _ => .str x
  | _, _, .lst h r, n => .lst h (Reps.dp r (by simpa [noDict] using n))
  | _, _, .tup h r, n => .tup (.of h) (Reps.dp r (by simpa [noDict] using n))
  | _, _, .dK _ _, n => by simp [noDict] at n
  | _, _, .dT _ _, n => by simp [noDict] at n
theorem Reps.dp : ∀ {v : List V} {d : List D}, Reps K F v d → noDicts d = true → DpAll K F v d
  | _, _, .nil, _ => .nil
  | _, _, .cons h r, n => by
    simp only [noDicts, Bool.and_eq_true] at n
    exact .cons (Rep.dp h n.1) (Reps.dp r n.2)
end
mutual
theorem Rep.canLay : ∀ {v : V} {d : D}, Rep K F v d → noDict d = true → d.canLay0 = true
  | _, _, .non, _ => by simp [PyData.canLay0]
  | _, _, .bl b, _ => by simp [PyData.canLay0]
  | _, _, .int i, _ => by simp [PyData.canLay0]
  | _, _, .str x h, _ => by simpa [PyData.canLay0] using h
  | _, _, .lst h r, n => by
    simp only [PyData.canLay0]
    exact Reps.canLay r (by simpa [noDict] using n)
  | _, _, .tup h r, n => by
    simp only [PyData.canLay0]
    exact Reps.canLay r (by simpa [noDict] using n)
  | _, _, .dK _ _, n => by simp [noDict] at n
  | _, _, .dT _ _, n => by simp [noDict] at n
theorem Reps.canLay : ∀ {v : List V} {d : List D}, Reps K F v d → noDicts d = true → PyData.canLayAll0 d = true
  | _, _, .nil, _ => by simp [PyData.canLayAll0]
  | _, _, .cons h r, n => by
    simp only [noDicts, Bool.and_eq_true] at n
    simp only [PyData.canLayAll0, Bool.and_eq_true]
    exact ⟨Rep.canLay h n.1, Reps.canLay r n.2⟩
end
end

/-! ### heaps that grow -/
structure Ext (H F H' F' : Hp) : Prop where
  h : Same H H'
  f : Same F F'
  sub : Same F' H'
  new : ∀ a o, F' a = some o → F a = some o ∨ H a = none
theorem Ext.refl {H F : Hp} (s : Same F H) : Ext H F H F := ⟨Same.refl H, Same.refl F, s, fun _ _ h => .inl h⟩
theorem Ext.trans {H F H1 F1 H2 F2 : Hp} (a : Ext H F H1 F1) (b : Ext H1 F1 H2 F2) : Ext H F H2 F2 :=
  ⟨a.h.trans b.h, a.f.trans b.f, b.sub, fun x o h => by
    rcases b.new x o h with h | h
    · exact a.new x o h
    · exact .inr (a.h.free h)⟩
/-- a new object -/
theorem Ext.laid {H F : Hp} (s : Same F H) {p : Addr} (o : HO) (hp : H p = none) : Ext H F (upd H p o) (upd F p o) := by
  have hf : F p = none := s.free hp
  refine ⟨fun b u h => by rw [upd_ne (ne_of_none h hp)]; exact h, fun b u h => by rw [upd_ne (ne_of_none h hf)]; exact h, fun b u h => ?_, fun b u h => ?_⟩
  · by_cases e : b = p
    · subst e; rw [upd_same] at h ⊢; exact h
    · rw [upd_ne e] at h ⊢; exact s _ _ h
  · by_cases e : b = p
    · subst e; exact .inr hp
    · rw [upd_ne e] at h; exact .inl h
/-- the abstract heap alone grows -/
theorem Ext.aside {H F H' : Hp} (s : Same F H) (g : Same H H') : Ext H F H' F := ⟨g, Same.refl F, s.trans g, fun _ _ h => .inl h⟩
theorem same_upd {H : Hp} {p : Addr} {o : HO} (h : H p = none) : Same H (upd H p o) := fun b u e => by
  rw [upd_ne (ne_of_none e h)]; exact e

/-! ### what only one slot holds -/
def RepO (K : PySem.W.Frag) (F : Hp) : HO → D → Prop
  | .lst xs, .list ds => Reps K F xs ds
  | .dK kvs, .dict ds => RepK K F kvs ds
  | .dT kvs, .dict ((.none, .none) :: ds) => RepT K F kvs ds
  | _, _ => False
theorem RepO.mono {K : PySem.W.Frag} {F F' : Hp} (e : Same F F') : ∀ {o : HO} {d : D}, RepO K F o d → RepO K F' o d := by
  intro o d h
  unfold RepO at h ⊢
  split at h
  · exact h.mono e
  · exact h.mono e
  · exact h.mono e
  · exact h.elim
/-- the value is d: by frozen objects, but for its own top -/
def RepB (K : PySem.W.Frag) (H F : Hp) (v : V) (d : D) : Prop := Rep K F v d ∨ ∃ p o, v = .ref p ∧ H p = some o ∧ RepO K F o d
theorem RepB.mono {K : PySem.W.Frag} {H H' F F' : Hp} (e : Same H H') (f : Same F F') {v : V} {d : D} (h : RepB K H F v d) : RepB K H' F' v d := by
  rcases h with h | ⟨p, o, h1, h2, h3⟩
  · exact .inl (h.mono f)
  · exact .inr ⟨p, o, h1, e _ _ h2, h3.mono f⟩
theorem RepB.rep {K : PySem.W.Frag} {H F : Hp} {v : V} {d : D} (h : RepB K H F v d) (c : isCon d = false) : Rep K F v d := by
  rcases h with h | ⟨p, o, h1, h2, h3⟩
  · exact h
  · exfalso
    unfold RepO at h3
    split at h3 <;> first | exact h3.elim | (simp [isCon] at c)
/-- all of it by the whole heap -/
theorem RepB.list {K : PySem.W.Frag} {H F : Hp} {v : V} {ds : List D} (h : RepB K H F v (.list ds)) (s : Same F H) : ∃ a xs, v = .ref a ∧ SqL K H a xs ∧ Reps K F xs ds := by
  rcases h with h | ⟨p, o, h1, h2, h3⟩
  · cases h with
    | lst h r => exact ⟨_, _, rfl, s.seq h, r⟩
  · unfold RepO at h3
    split at h3
    · rename_i xs ds' e
      cases e
      exact ⟨p, xs, h1, .inl (.inl h2), h3⟩
    · rename_i e; cases e
    · rename_i e; cases e
    · exact h3.elim
theorem RepB.tuple {K : PySem.W.Frag} {H F : Hp} {v : V} {ds : List D} (h : RepB K H F v (.tuple ds)) (s : Same F H) : ∃ a xs, v = .ref a ∧ F a = some (.tup xs) ∧ SqT K H a xs ∧ Reps K F xs ds := by
  have q := h.rep rfl
  cases q with
  | tup q r => exact ⟨_, _, rfl, q, .of (s _ _ q), r⟩

/-! ### a def's state -/
def SlotOk (K : PySem.W.Frag) (H0 H F : Hp) : Slot → Option V → Prop
  | .no, _ => True
  | .val d, x => ∃ v, x = some v ∧ Rep K F v d
  | .own d, x => ∃ p o, x = some (.ref p) ∧ F p = none ∧ H0 p = none ∧ H p = some o ∧ RepO K F o d
  | .bor d, x => ∃ v, x = some v ∧ RepB K H0 F v d
structure St (K : PySem.W.Frag) (H0 F0 H F : Hp) (σ : L2.St) (ρ : Rho) : Prop where
  h : Same H0 H
  f : Same F0 F
  sub : Same F H
  new : ∀ a o, F a = some o → F0 a = some o ∨ H0 a = none
  len : ρ.length = σ.length
  sl : ∀ (i : Nat) (s : Slot) (x : Option V), ρ[i]? = some s → σ[i]? = some x → SlotOk K H0 H F s x
  dj : ∀ (i j : Nat) (di dj : D) (p : Addr), i ≠ j → ρ[i]? = some (.own di) → ρ[j]? = some (.own dj) → σ[i]? = some (some (.ref p)) → σ[j]? ≠ some (some (.ref p))
theorem atR_eq : ∀ (ρ : Rho) (i : Nat), atR ρ i = (ρ[i]?).getD .no
  | [], i => by cases i <;> rfl
  | s :: r, 0 => rfl
  | s :: r, i + 1 => by
    show atR r i = _
    rw [atR_eq r i]; simp
section
variable {K : PySem.W.Frag} {H0 F0 H F H' F' : Hp} {σ : L2.St} {ρ : Rho}
theorem St.ext (S : St K H0 F0 H F σ ρ) (e : Ext H F H' F') : St K H0 F0 H' F' σ ρ := by
  refine ⟨S.h.trans e.h, S.f.trans e.f, e.sub, fun a o q => ?_, S.len, fun i s x h1 h2 => ?_, S.dj⟩
  · rcases e.new a o q with q | q
    · exact S.new a o q
    · exact .inr (S.h.free q)
  · have q := S.sl i s x h1 h2
    cases s with
    | no => trivial
    | val d =>
      obtain ⟨v, e1, r⟩ := q
      exact ⟨v, e1, r.mono e.f⟩
    | own d =>
      obtain ⟨p, o, e1, f0, h0, hp, r⟩ := q
      refine ⟨p, o, e1, ?_, h0, e.h _ _ hp, r.mono e.f⟩
      cases z : F' p with
      | none => rfl
      | some u =>
        rcases e.new p u z with z | z
        · rw [f0] at z; cases z
        · rw [hp] at z; cases z
    | bor d =>
      obtain ⟨v, e1, r⟩ := q
      exact ⟨v, e1, r.mono (Same.refl _) e.f⟩
theorem St.at (S : St K H0 F0 H F σ ρ) {i : Nat} {s : Slot} (h : atR ρ i = s) (n : s ≠ .no) : ρ[i]? = some s ∧ ∃ x, σ[i]? = some x ∧ SlotOk K H0 H F s x := by
  rw [atR_eq] at h
  cases e : ρ[i]? with
  | none => rw [e] at h; exact absurd h.symm n
  | some s' =>
    rw [e] at h
    have h' : s' = s := h
    subst h'
    have hl : i < σ.length := by
      rw [← S.len]
      exact (List.getElem?_eq_some_iff.mp e).1
    refine ⟨rfl, σ[i], by simp [hl], S.sl i s' _ e (by simp [hl])⟩
theorem St.var (S : St K H0 F0 H F σ ρ) {i : Nat} {d : D} (h : fVar i ρ = some d) : ∃ v, σ[i]? = some (some v) ∧ Rep K F v d := by
  unfold fVar at h
  cases e : atR ρ i with
  | no => rw [e] at h; cases h
  | val d' =>
    rw [e] at h
    cases h
    obtain ⟨_, x, h1, v, h2, r⟩ := S.at e (by simp)
    exact ⟨v, by rw [h1, h2], r⟩
  | own d' => rw [e] at h; cases h
  | bor d' =>
    rw [e] at h
    obtain ⟨_, x, h1, v, h2, r⟩ := S.at e (by simp)
    dsimp only at h
    split at h
    · cases h
    · rename_i c
      cases h
      refine ⟨v, by rw [h1, h2], ?_⟩
      exact r.rep (by simpa using c)
theorem St.varB (S : St K H0 F0 H F σ ρ) {i : Nat} {d : D} (h : bVar i ρ = some d) : ∃ v, σ[i]? = some (some v) ∧ RepB K H F v d := by
  unfold bVar at h
  cases e : atR ρ i with
  | no => rw [e] at h; cases h
  | val d' =>
    rw [e] at h
    cases h
    obtain ⟨_, x, h1, v, h2, r⟩ := S.at e (by simp)
    exact ⟨v, by rw [h1, h2], .inl r⟩
  | own d' =>
    rw [e] at h
    cases h
    obtain ⟨_, x, h1, p, o, h2, _, _, h3, r⟩ := S.at e (by simp)
    exact ⟨_, by rw [h1, h2], .inr ⟨p, o, rfl, h3, r⟩⟩
  | bor d' =>
    rw [e] at h
    cases h
    obtain ⟨_, x, h1, v, h2, r⟩ := S.at e (by simp)
    exact ⟨v, by rw [h1, h2], r.mono S.h (Same.refl _)⟩
/-- a value stored -/
theorem St.set (S : St K H0 F0 H F σ ρ) (i : Nat) {v : V} {d : D} (r : Rep K F v d) : St K H0 F0 H F (σ.set i (some v)) (ρ.set i (.val d)) := by
  refine ⟨S.h, S.f, S.sub, S.new, by simp [S.len], fun j s x h1 h2 => ?_, fun j k dj dk p hjk h1 h2 h3 => ?_⟩
  · by_cases e : i = j
    · subst e
      have hl : i < ρ.length := by
        have := (List.getElem?_eq_some_iff.mp h1).1
        simpa using this
      rw [List.getElem?_set_self hl] at h1
      rw [List.getElem?_set_self (by rw [← S.len]; exact hl)] at h2
      cases h1; cases h2
      exact ⟨v, rfl, r⟩
    · rw [List.getElem?_set_ne e] at h1 h2
      exact S.sl j s x h1 h2
  · have nj : i ≠ j := by
      intro e; subst e
      have hl : i < ρ.length := by
        have := (List.getElem?_eq_some_iff.mp h1).1
        simpa using this
      rw [List.getElem?_set_self hl] at h1; cases h1
    have nk : i ≠ k := by
      intro e; subst e
      have hl : i < ρ.length := by
        have := (List.getElem?_eq_some_iff.mp h2).1
        simpa using this
      rw [List.getElem?_set_self hl] at h2; cases h2
    rw [List.getElem?_set_ne nj] at h1 h3
    rw [List.getElem?_set_ne nk] at h2 ⊢
    exact S.dj j k dj dk p hjk h1 h2 h3
/-- a new object stored: only this slot has it -/
theorem St.setOwn (S : St K H0 F0 H F σ ρ) (i : Nat) {p : Addr} {o : HO} {d : D} (hp : H p = none) (r : RepO K F o d) : St K H0 F0 (upd H p o) F (σ.set i (some (.ref p))) (ρ.set i (.own d)) := by
  have old : ∀ (j : Nat) (dj : D), ρ[j]? = some (.own dj) → σ[j]? ≠ some (some (.ref p)) := fun j dj h1 h2 => by
    obtain ⟨q, u, e, _, _, hq, _⟩ := S.sl j _ _ h1 h2
    cases e
    rw [hp] at hq; cases hq
  refine ⟨S.h.trans (same_upd hp), S.f, S.sub.trans (same_upd hp), S.new, by simp [S.len], fun j s x h1 h2 => ?_, fun j k dj dk q hjk h1 h2 h3 h4 => ?_⟩
  · by_cases e : i = j
    · subst e
      have hl : i < ρ.length := by
        have := (List.getElem?_eq_some_iff.mp h1).1
        simpa using this
      rw [List.getElem?_set_self hl] at h1
      rw [List.getElem?_set_self (by rw [← S.len]; exact hl)] at h2
      cases h1; cases h2
      exact ⟨p, o, rfl, S.sub.free hp, S.h.free hp, upd_same, r⟩
    · rw [List.getElem?_set_ne e] at h1 h2
      have q := S.sl j s x h1 h2
      cases s with
      | no => trivial
      | val d => exact q
      | bor d => exact q
      | own d =>
        obtain ⟨q, u, e1, f0, h0, hq, r'⟩ := q
        exact ⟨q, u, e1, f0, h0, same_upd hp _ _ hq, r'⟩
  · by_cases ej : i = j
    · subst ej
      have hl : i < ρ.length := by
        have := (List.getElem?_eq_some_iff.mp h1).1
        simpa using this
      rw [List.getElem?_set_self (by rw [← S.len]; exact hl)] at h3
      cases h3
      rw [List.getElem?_set_ne hjk] at h2 h4
      exact old k dk h2 h4
    · rw [List.getElem?_set_ne ej] at h1 h3
      by_cases ek : i = k
      · subst ek
        have hl : i < ρ.length := by
          have := (List.getElem?_eq_some_iff.mp h2).1
          simpa using this
        rw [List.getElem?_set_self (by rw [← S.len]; exact hl)] at h4
        cases h4
        exact old j dj h1 h3
      · rw [List.getElem?_set_ne ek] at h2 h4
        exact S.dj j k dj dk q hjk h1 h2 h3 h4
/-- the object of an own slot is changed -/
theorem St.change (S : St K H0 F0 H F σ ρ) {i : Nat} {p : Addr} {o' : HO} {d d' : D} (hi : ρ[i]? = some (.own d)) (hσ : σ[i]? = some (some (.ref p))) (r : RepO K F o' d') : St K H0 F0 (upd H p o') F σ (ρ.set i (.own d')) := by
  obtain ⟨p', o, e, f0, h0, hp, _⟩ := S.sl i _ _ hi hσ
  cases e
  have hl : i < ρ.length := (List.getElem?_eq_some_iff.mp hi).1
  refine ⟨fun b u q => ?_, S.f, fun b u q => ?_, S.new, by simp [S.len], fun j s x h1 h2 => ?_, fun j k dj dk q hjk h1 h2 h3 h4 => ?_⟩
  · rw [upd_ne (ne_of_none q h0)]; exact S.h _ _ q
  · rw [upd_ne (ne_of_none q f0)]; exact S.sub _ _ q
  · by_cases e : i = j
    · subst e
      rw [List.getElem?_set_self hl] at h1
      rw [hσ] at h2
      cases h1; cases h2
      exact ⟨p, o', rfl, f0, h0, upd_same, r⟩
    · rw [List.getElem?_set_ne e] at h1
      have q := S.sl j s x h1 h2
      cases s with
      | no => trivial
      | val d => exact q
      | bor d => exact q
      | own d2 =>
        obtain ⟨q, u, e1, f1, h1', hq, r'⟩ := q
        refine ⟨q, u, e1, f1, h1', ?_, r'⟩
        rw [upd_ne ?_]
        · exact hq
        · intro z
          subst z
          exact S.dj i j d d2 q e hi h1 hσ (by rw [h2, e1])
  · have aux : ∀ (m : Nat) (dm : D), (ρ.set i (.own d'))[m]? = some (.own dm) → ∃ dm', ρ[m]? = some (.own dm') := fun m dm z => by
      by_cases e : i = m
      · subst e; exact ⟨d, hi⟩
      · rw [List.getElem?_set_ne e] at z; exact ⟨dm, z⟩
    obtain ⟨x1, z1⟩ := aux j dj h1
    obtain ⟨x2, z2⟩ := aux k dk h2
    exact S.dj j k x1 x2 q hjk z1 z2 h3 h4
theorem St.wipe (S : St K H0 F0 H F σ ρ) : ∀ vs : List Nat, St K H0 F0 H F (L2.wipe σ vs) (wipeR ρ vs)
  | [] => S
  | v :: vs => by
    have S1 := St.wipe S vs
    unfold L2.wipe wipeR
    refine ⟨S1.h, S1.f, S1.sub, S1.new, by simp [S1.len], fun j s x h1 h2 => ?_, fun j k dj dk p hjk h1 h2 h3 => ?_⟩
    · by_cases e : v = j
      · subst e
        have hl : v < (wipeR ρ vs).length := by
          have := (List.getElem?_eq_some_iff.mp h1).1
          simpa using this
        rw [List.getElem?_set_self hl] at h1
        cases h1
        trivial
      · rw [List.getElem?_set_ne e] at h1 h2
        exact S1.sl j s x h1 h2
    · have nj : v ≠ j := by
        intro e; subst e
        have hl : v < (wipeR ρ vs).length := by
          have := (List.getElem?_eq_some_iff.mp h1).1
          simpa using this
        rw [List.getElem?_set_self hl] at h1; cases h1
      have nk : v ≠ k := by
        intro e; subst e
        have hl : v < (wipeR ρ vs).length := by
          have := (List.getElem?_eq_some_iff.mp h2).1
          simpa using this
        rw [List.getElem?_set_self hl] at h2; cases h2
      rw [List.getElem?_set_ne nj] at h1 h3
      rw [List.getElem?_set_ne nk] at h2 ⊢
      exact S1.dj j k dj dk p hjk h1 h2 h3
end
end Pu
set_option maxRecDepth 100000
/-! What an expression's mirror promises; the rules of expressions. -/
namespace Pu
open PySem PySem.Spec PyProof.Rows L2

/-! ### the judgements -/
def tX (K : PySem.W.Frag) (f : F1) : TE := fun σ H Q => ∃ (H0 F0 F : Hp) (ρ : Rho) (d : D), St K H0 F0 H F σ ρ ∧ f ρ = some d ∧ ∀ H' F' v, Ext H F H' F' → Rep K F' v d → Q v H'
def tBw (K : PySem.W.Frag) (f : F1) : TE := fun σ H Q => ∃ (H0 F0 F : Hp) (ρ : Rho) (d : D), St K H0 F0 H F σ ρ ∧ f ρ = some d ∧ ∀ H' F' v, Ext H F H' F' → RepB K H' F' v d → Q v H'
def tTs (K : PySem.W.Frag) (f : FB) : TT := fun σ H Q => ∃ (H0 F0 F : Hp) (ρ : Rho) (b : Bool), St K H0 F0 H F σ ρ ∧ f ρ = some b ∧ ∀ H' F', Ext H F H' F' → Q b H'
/-- arguments: true where the list may be lent -/
inductive RepsM (K : PySem.W.Frag) (H F : Hp) : List Bool → List V → List D → Prop
  | nil : RepsM K H F [] [] []
  | val {v : V} {vs : List V} {d : D} {ds : List D} {ms : List Bool} : Rep K F v d → RepsM K H F ms vs ds → RepsM K H F (false :: ms) (v :: vs) (d :: ds)
  | bor {v : V} {vs : List V} {d : D} {ds : List D} {ms : List Bool} : RepB K H F v d → RepsM K H F ms vs ds → RepsM K H F (true :: ms) (v :: vs) (d :: ds)
theorem RepsM.mono {K : PySem.W.Frag} {H F H' F' : Hp} (e : Same H H') (f : Same F F') : ∀ {ms : List Bool} {vs : List V} {ds : List D}, RepsM K H F ms vs ds → RepsM K H' F' ms vs ds
  | _, _, _, .nil => .nil
  | _, _, _, .val h r => .val (h.mono f) (RepsM.mono e f r)
  | _, _, _, .bor h r => .bor (h.mono e f) (RepsM.mono e f r)
theorem RepsM.length {K : PySem.W.Frag} {H F : Hp} : ∀ {ms : List Bool} {vs : List V} {ds : List D}, RepsM K H F ms vs ds → vs.length = ms.length
  | _, _, _, .nil => rfl
  | _, _, _, .val _ r => congrArg (· + 1) (RepsM.length r)
  | _, _, _, .bor _ r => congrArg (· + 1) (RepsM.length r)
theorem RepsM.reps {K : PySem.W.Frag} {H F : Hp} : ∀ {ms : List Bool} {vs : List V} {ds : List D}, RepsM K H F ms vs ds → (∀ b ∈ ms, b = false) → Reps K F vs ds
  | _, _, _, .nil, _ => .nil
  | _, _, _, .val h r, q => .cons h (RepsM.reps r fun b hb => q b (List.mem_cons_of_mem _ hb))
  | _, _, _, .bor h r, q => by have := q true List.mem_cons_self; cases this
def tAr (K : PySem.W.Frag) (ms : List Bool) (f : FA) : TA := fun σ H Q => ∃ (H0 F0 F : Hp) (ρ : Rho) (ds : List D), St K H0 F0 H F σ ρ ∧ f ρ = some ds ∧ ∀ H' F' vs, Ext H F H' F' → RepsM K H' F' ms vs ds → Q vs H'

abbrev PX (X : Cx) (e : Expr) (f : F1) : Prop := PE X e (tX X.K f)
abbrev PB (X : Cx) (e : Expr) (f : F1) : Prop := PE X e (tBw X.K f)
abbrev PTs' (X : Cx) (e : Expr) (f : FB) : Prop := PT X e (tTs X.K f)
abbrev PWs (X : Cx) (e : Expr) (f : FB) : Prop := PW X e (tTs X.K f)
abbrev PAr (X : Cx) (es : List Expr) (ms : List Bool) (f : FA) : Prop := PA X es (tAr X.K ms f)

theorem peImp {X : Cx} {e : Expr} {t t' : TE} (h : PE X e t) (w : ∀ σ H Q, t' σ H Q → t σ H Q) : PE X e t' := ⟨fun pins s σ H Q I q => h.run pins s σ H Q I (w _ _ _ q)⟩
theorem ptImp {X : Cx} {e : Expr} {t t' : TT} (h : PT X e t) (w : ∀ σ H Q, t' σ H Q → t σ H Q) : PT X e t' := ⟨fun pins s σ H Q I q => h.run pins s σ H Q I (w _ _ _ q)⟩
theorem pwImp {X : Cx} {e : Expr} {t t' : TT} (h : PW X e t) (w : ∀ σ H Q, t' σ H Q → t σ H Q) : PW X e t' := ⟨fun wh pins s σ H Q I q => h.run wh pins s σ H Q I (w _ _ _ q)⟩
theorem paImp {X : Cx} {e : List Expr} {t t' : TA} (h : PA X e t) (w : ∀ σ H Q, t' σ H Q → t σ H Q) : PA X e t' := ⟨fun pos pins s σ H Q I q => h.run pos pins s σ H Q I (w _ _ _ q)⟩
section
variable {X : Cx} {e a b c : Expr} {f g h : F1} {pos : Pos}
theorem PX.toB (p : PX X e f) : PB X e f := peImp p fun σ H Q ⟨H0, F0, F, ρ, d, S, hd, q⟩ => ⟨H0, F0, F, ρ, d, S, hd, fun H' F' v x r => q H' F' v x (.inl r)⟩

/-! ### leaves -/
theorem x_var (i : Nat) {x : Str} (hN : X.N[i]? = some x := by rfl) (hv : Vis X.env.scope x := by first | exact Or.inl rfl | exact Or.inr (Or.inl rfl) | exact Or.inr (Or.inr rfl)) (hd : (x == ("__debug__" : Str)) = false := by decide)
    (hcd : (x == ("__classdict__" : Str)) = false := by decide) : PX X (.Name x pos) (fVar i) := peImp (pv i hN hv hd hcd) fun σ H Q ⟨H0, F0, F, ρ, d, S, hd, q⟩ => by
  obtain ⟨v, h1, r⟩ := S.var hd
  exact ⟨v, h1, q H F v (Ext.refl S.sub) r⟩
theorem b_var (i : Nat) {x : Str} (hN : X.N[i]? = some x := by rfl) (hv : Vis X.env.scope x := by first | exact Or.inl rfl | exact Or.inr (Or.inl rfl) | exact Or.inr (Or.inr rfl)) (hd : (x == ("__debug__" : Str)) = false := by decide)
    (hcd : (x == ("__classdict__" : Str)) = false := by decide) : PB X (.Name x pos) (bVar i) := peImp (pv i hN hv hd hcd) fun σ H Q ⟨H0, F0, F, ρ, d, S, hd, q⟩ => by
  obtain ⟨v, h1, r⟩ := S.varB hd
  exact ⟨v, h1, q H F v (Ext.refl S.sub) r⟩
theorem x_c {v : V} {d : D} (hp : PE X e (tC v)) (r : ∀ F, Rep X.K F v d) : PX X e (fK d) := peImp hp fun σ H Q ⟨H0, F0, F, ρ, d', S, hd, q⟩ => by
  cases hd
  exact q H F v (Ext.refl S.sub) (r F)
theorem x_int {i : Int} {j : Nat} : PX X (.Constant (.int i) j pos) (fK (.int i)) := x_c pe_int fun _ => .int i
theorem x_bl {i : Bool} {j : Nat} : PX X (.Constant (.bool i) j pos) (fK (.bool i)) := x_c pe_bl fun _ => .bl i
theorem x_non {j : Nat} : PX X (.Constant .none j pos) (fK .none) := x_c pe_non fun _ => .non
theorem x_str {i : Str} {j : Nat} (h : PyData.strOk i = true := by decide +kernel) : PX X (.Constant (.str i) j pos) (fK (.str i)) := x_c pe_str fun _ => .str i h

/-! ### operators by values -/
def Sem2 (K : PySem.W.Frag) (r : R2) (op : D → D → Option D) : Prop := ∀ (H F : Hp) (x y : D) (vx vy : V) (d : D) (Q : VK), Same F H → RepB K H F vx x → RepB K H F vy y → op x y = some d →
  (∀ H' F' v, Ext H F H' F' → Rep K F' v d → Q v H') → r vx vy H Q
def Sem1 (K : PySem.W.Frag) (r : V → Hp → VK → Prop) (op : D → Option D) : Prop := ∀ (H F : Hp) (x : D) (vx : V) (d : D) (Q : VK), Same F H → RepB K H F vx x → op x = some d →
  (∀ H' F' v, Ext H F H' F' → Rep K F' v d → Q v H') → r vx H Q
theorem f2_some {op : D → D → Option D} {ρ : Rho} {d : D} (h : f2 op f g ρ = some d) : ∃ x y, f ρ = some x ∧ g ρ = some y ∧ op x y = some d := by
  unfold f2 at h
  obtain ⟨x, h1, h2⟩ := Option.bind_eq_some_iff.mp h
  obtain ⟨y, h3, h4⟩ := Option.bind_eq_some_iff.mp h2
  exact ⟨x, y, h1, h3, h4⟩
theorem f1_some {op : D → Option D} {ρ : Rho} {d : D} (h : f1 op f ρ = some d) : ∃ x, f ρ = some x ∧ op x = some d := Option.bind_eq_some_iff.mp h
theorem bin_go {K : PySem.W.Frag} {r : R2} {op : D → D → Option D} (sem : Sem2 K r op) : ∀ σ H Q, tX K (f2 op f g) σ H Q → tOp r (tBw K f) (tBw K g) σ H Q := fun σ H Q ⟨H0, F0, F, ρ, d, S, hd, q⟩ => by
  obtain ⟨x, y, hx, hy, hop⟩ := f2_some hd
  refine ⟨H0, F0, F, ρ, x, S, hx, fun H1 F1 v e1 r1 => ⟨H0, F0, F1, ρ, y, S.ext e1, hy, fun H2 F2 w e2 r2 => ?_⟩⟩
  exact sem H2 F2 x y v w d Q e2.sub (r1.mono e2.h e2.f) r2 hop fun H3 F3 u e3 r3 => q H3 F3 u ((e1.trans e2).trans e3) r3
theorem x_op {op : Operator} {r : R2} {o : D → D → Option D} (ho : OpR X (binaryOp op) r) (sem : Sem2 X.K r o) (ha : PB X a f) (hb : PB X b g) : PX X (.BinOp a op b pos) (f2 o f g) := peImp (pe_op ho ha hb) (bin_go sem)
theorem x_cmp {op : CmpOp} {r : R2} {o : D → D → Option D} (ho : OpR X (compareOp op) r) (sem : Sem2 X.K r o) (hm : behindInMarks op b = false) (ha : PB X a f) (hb : PB X b g) : PX X (.Compare a [op] [b] pos) (f2 o f g) := peImp (pe_cmpR ho ha hb hm) (bin_go sem)
theorem x_un {op : UnaryOp} {r : V → Hp → VK → Prop} {o : D → Option D} (ho : UnR X (unaryOp op) r) (sem : Sem1 X.K r o) (ha : PB X a f) : PX X (.UnaryOp op a pos) (f1 o f) := peImp (pe_un ho ha) fun σ H Q ⟨H0, F0, F, ρ, d, S, hd, q⟩ => by
  obtain ⟨x, hx, hop⟩ := f1_some hd
  refine ⟨H0, F0, F, ρ, x, S, hx, fun H1 F1 v e1 r1 => ?_⟩
  exact sem H1 F1 x v d Q e1.sub r1 hop fun H3 F3 u e3 r3 => q H3 F3 u (e1.trans e3) r3
end

section
variable {K : PySem.W.Frag} {H F : Hp}
theorem RepB.int {v : V} {i : Int} (h : RepB K H F v (.int i)) : v = .int i := by
  cases h.rep rfl; rfl
theorem RepB.bool {v : V} {i : Bool} (h : RepB K H F v (.bool i)) : v = .bl i := by
  cases h.rep rfl; rfl
theorem RepB.str {v : V} {i : Str} (h : RepB K H F v (.str i)) : v = .str i ∧ PyData.strOk i = true := by
  cases h.rep rfl
  exact ⟨rfl, by assumption⟩
theorem RepB.none {v : V} (h : RepB K H F v .none) : v = .non := by
  cases h.rep rfl; rfl
/-- a result that is not made of objects -/
theorem same_q {Q : VK} {v : V} {d : D} (s : Same F H) (q : ∀ H' F' v, Ext H F H' F' → Rep K F' v d → Q v H') (r : Rep K F v d) : Q v H := q H F v (Ext.refl s) r
theorem new_lst {Q : VK} {xs : List V} {ds : List D} (s : Same F H) (q : ∀ H' F' v, Ext H F H' F' → Rep K F' v (.list ds) → Q v H') (r : Reps K F xs ds) : ∀ p, H p = none → Q (.ref p) (upd H p (.lst xs)) := fun p hp =>
  q _ _ _ (Ext.laid s (.lst xs) hp) (.lst (.inl (.inl upd_same)) (r.mono (same_upd (s.free hp))))
theorem new_tup {Q : VK} {xs : List V} {ds : List D} (s : Same F H) (q : ∀ H' F' v, Ext H F H' F' → Rep K F' v (.tuple ds) → Q v H') (r : Reps K F xs ds) : ∀ p, H p = none → Q (.ref p) (upd H p (.tup xs)) := fun p hp =>
  q _ _ _ (Ext.laid s (.tup xs) hp) (.tup upd_same (r.mono (same_upd (s.free hp))))

theorem sem_int {C : Int → Int → Prop} {gi : Int → Int → Int} {o : D → D → Option D} (h : ∀ x y d, o x y = some d → ∃ i j, x = .int i ∧ y = .int j ∧ C i j ∧ d = .int (gi i j)) : Sem2 K (rI C fun i j => .int (gi i j)) o := fun H F x y vx vy d Q s rx ry hd q => by
  obtain ⟨i, j, rfl, rfl, hc, rfl⟩ := h x y d hd
  exact ⟨i, j, rx.int, ry.int, hc, same_q s q (.int _)⟩
theorem sem_int0 {gi : Int → Int → Int} {o : D → D → Option D} (h : ∀ x y d, o x y = some d → ∃ i j, x = .int i ∧ y = .int j ∧ d = .int (gi i j)) : Sem2 K (rI0 fun i j => .int (gi i j)) o := fun H F x y vx vy d Q s rx ry hd q => by
  obtain ⟨i, j, rfl, rfl, rfl⟩ := h x y d hd
  exact ⟨i, j, rx.int, ry.int, same_q s q (.int _)⟩
theorem sem_bool0 {gi : Int → Int → Bool} {o : D → D → Option D} (h : ∀ x y d, o x y = some d → ∃ i j, x = .int i ∧ y = .int j ∧ d = .bool (gi i j)) : Sem2 K (rI0 fun i j => .bl (gi i j)) o := fun H F x y vx vy d Q s rx ry hd q => by
  obtain ⟨i, j, rfl, rfl, rfl⟩ := h x y d hd
  exact ⟨i, j, rx.int, ry.int, same_q s q (.bl _)⟩
theorem sem_sub : Sem2 K (rI0 fun i j => .int (i - j)) subD := sem_int0 fun x y d h => by
  unfold subD at h; split at h
  · cases h; exact ⟨_, _, rfl, rfl, rfl⟩
  · cases h
theorem mulOk_of {i j : Int} (h : mulOk i j = true) : CMul i j := by
  unfold mulOk at h
  rw [Bool.or_eq_true, decide_eq_true_eq, decide_eq_true_eq] at h
  rcases h with h | h
  · exact .inl (by omega)
  · exact .inr (by omega)
theorem sem_mul : Sem2 K (rI CMul fun i j => .int (i * j)) mulD := sem_int fun x y d h => by
  unfold mulD at h; split at h
  · split at h
    · rename_i hc
      cases h; exact ⟨_, _, rfl, rfl, mulOk_of hc, rfl⟩
    · cases h
  · cases h
theorem log2_64 {n : Nat} (h : n < 18446744073709551616) : n.log2 < 64 := by
  by_cases h0 : n = 0
  · subst h0; decide
  · exact (Nat.log2_lt h0).mpr h
theorem sem_div : Sem2 K (rI CDivW fun i j => .int (i / j)) divD := sem_int fun x y d h => by
  unfold divD at h; split at h
  · split at h
    · rename_i hc
      cases h
      unfold divOk at hc
      rw [Bool.and_eq_true, decide_eq_true_eq, decide_eq_true_eq] at hc
      refine ⟨_, _, rfl, rfl, ⟨hc.1, Nat.lt_of_lt_of_le (log2_64 hc.2) (by decide)⟩, rfl⟩
    · cases h
  · cases h
theorem sem_mod : Sem2 K (rI (fun _ j => 0 < j) fun i j => .int (i % j)) modD := sem_int fun x y d h => by
  unfold modD at h; split at h
  · split at h
    · rename_i hc
      cases h
      rw [decide_eq_true_eq] at hc
      exact ⟨_, _, rfl, rfl, hc, rfl⟩
    · cases h
  · cases h
theorem sem_pow : Sem2 K (rI CPow fun i j => .int (i ^ j.toNat)) powD := sem_int fun x y d h => by
  unfold powD at h; split at h
  · split at h
    · rename_i hc
      cases h
      rw [Bool.and_eq_true, Bool.and_eq_true, decide_eq_true_eq, decide_eq_true_eq, decide_eq_true_eq] at hc
      exact ⟨_, _, rfl, rfl, ⟨hc.1.1, by omega, by omega⟩, rfl⟩
    · cases h
  · cases h
theorem sem_neg : Sem1 K (rU fun i => .int (-i)) negD := fun H F x vx d Q s rx hd q => by
  unfold negD at hd; split at hd
  · cases hd
    exact ⟨_, rx.int, same_q s q (.int _)⟩
  · cases hd
theorem sem_le : Sem2 K (rI0 fun i j => .bl (decide (i ≤ j))) leD := sem_bool0 fun x y d h => by
  unfold leD at h; split at h
  · cases h; exact ⟨_, _, rfl, rfl, rfl⟩
  · cases h
theorem sem_gt : Sem2 K (rI0 fun i j => .bl (decide (j < i))) gtD := sem_bool0 fun x y d h => by
  unfold gtD at h; split at h
  · cases h; exact ⟨_, _, rfl, rfl, rfl⟩
  · cases h
theorem sem_ge : Sem2 K (rI0 fun i j => .bl (decide (j ≤ i))) geD := sem_bool0 fun x y d h => by
  unfold geD at h; split at h
  · cases h; exact ⟨_, _, rfl, rfl, rfl⟩
  · cases h
def rLtIS : R2 := fun x y H Q => (∃ i j, x = .int i ∧ y = .int j ∧ Q (.bl (decide (i < j))) H) ∨ (∃ i j, x = .str i ∧ y = .str j ∧ Q (.bl (decide (i.cps.toList < j.cps.toList))) H)
theorem op_ltIS {X : Cx} : OpR X (compareOp .Lt) rLtIS := OpR.or op_lt op_lt_str
theorem sem_lt : Sem2 K rLtIS ltD := fun H F x y vx vy d Q s rx ry hd q => by
  unfold ltD at hd; split at hd
  · cases hd; exact .inl ⟨_, _, rx.int, ry.int, same_q s q (.bl _)⟩
  · cases hd; exact .inr ⟨_, _, rx.str.1, ry.str.1, same_q s q (.bl _)⟩
  · cases hd

/-! ### + -/
def rCatL (K : PySem.W.Frag) : R2 := fun x y H Q => ∃ l b xs zs, x = .ref l ∧ y = .ref b ∧ SqL K H l xs ∧ SqL K H b zs ∧ xs.length + zs.length ≤ sizeLine ∧ ∀ p, H p = none → Q (.ref p) (upd H p (.lst (xs ++ zs)))
theorem op_catL {X : Cx} : OpR X (binaryOp .Add) (rCatL X.K) := by
  intro pins s σ H x y v u Q I rx ry h
  obtain ⟨l, b, xs, zs, rfl, rfl, hH, hB, hz, q⟩ := h
  cases rx
  cases ry
  obtain ⟨its, r, ⟨⟨cls, dd, data, sl⟩, n, ho, hc, _, hd⟩, _⟩ := I.list hH
  obtain ⟨its2, r2, ⟨⟨cls2, dd2, data2, sl2⟩, n2, ho2, hc2, _, hd2⟩, _⟩ := I.list hB
  simp only at hc hd hc2 hd2
  subst hc hd hc2 hd2
  have hl := r.length
  have hl2 := r2.length
  have e : its.toArray ++ its2.toArray = (its ++ its2).toArray := by simp
  refine concat_meets ⟨_, ho, rfl⟩ ⟨_, ho2, rfl⟩ noFill_list_add seq_list_add PySem.F.slot_list_add PySem.F.entry_list_add (PySem.F.args_list_add_2 _ _) (list_addW l b its.toArray its2.toArray n n2 dd dd2 sl sl2 (by rw [List.size_toArray, List.size_toArray]; omega)) ⟨ho, ho2, ?_⟩
  rw [e]
  exact ⟨.ref _, _, I.lnew (t' := s.toks) (r.append r2) (by rw [List.length_append]; omega), rfl, q _ I.fresh⟩
def rAddAll (K : PySem.W.Frag) : R2 := fun x y H Q => (rI0 (fun i j => .int (i + j)) x y H Q ∨ rCatL K x y H Q) ∨ rCatA K x y H Q
theorem op_addAll {X : Cx} : OpR X (binaryOp .Add) (rAddAll X.K) := OpR.or (OpR.or op_add op_catL) op_catA
theorem sem_add : Sem2 K (rAddAll K) addD := fun H F x y vx vy d Q s rx ry hd q => by
  unfold addD at hd; split at hd
  · cases hd; exact .inl (.inl ⟨_, _, rx.int, ry.int, same_q s q (.int _)⟩)
  · split at hd
    · rename_i hc
      cases hd
      unfold fitsL at hc
      rw [decide_eq_true_eq] at hc
      obtain ⟨a, xs, rfl, h1, r1⟩ := rx.list s
      obtain ⟨b, ys, rfl, h2, r2⟩ := ry.list s
      refine .inl (.inr ⟨a, b, xs, ys, rfl, rfl, h1, h2, ?_, new_lst s q (r1.append r2)⟩)
      rw [r1.length, r2.length]; exact hc
    · cases hd
  · split at hd
    · rename_i hc
      cases hd
      unfold fitsL at hc
      rw [decide_eq_true_eq] at hc
      obtain ⟨a, xs, rfl, f1, h1, r1⟩ := rx.tuple s
      obtain ⟨b, ys, rfl, f2, h2, r2⟩ := ry.tuple s
      refine .inr ⟨a, b, xs, ys, rfl, rfl, h1, h2, ?_, fun e => ?_, fun _ e => ?_, fun _ _ => new_tup s q (r1.append r2)⟩
      · rw [r1.length, r2.length]; exact hc
      · subst e
        cases r1
        exact same_q s q (.tup f2 r2)
      · subst e
        cases r2
        rw [List.append_nil] at q
        exact same_q s q (.tup f1 r1)
    · cases hd
  · cases hd
end

section
variable {X : Cx} {a b : Expr} {f g : F1} {pos : Pos}
theorem x_add (ha : PB X a f) (hb : PB X b g) : PX X (.BinOp a .Add b pos) (f2 addD f g) := x_op op_addAll sem_add ha hb
theorem x_sub (ha : PB X a f) (hb : PB X b g) : PX X (.BinOp a .Sub b pos) (f2 subD f g) := x_op op_sub sem_sub ha hb
theorem x_mul (ha : PB X a f) (hb : PB X b g) : PX X (.BinOp a .Mult b pos) (f2 mulD f g) := x_op op_mul sem_mul ha hb
theorem x_div (ha : PB X a f) (hb : PB X b g) : PX X (.BinOp a .FloorDiv b pos) (f2 divD f g) := x_op op_fdivW sem_div ha hb
theorem x_mod (ha : PB X a f) (hb : PB X b g) : PX X (.BinOp a .Mod b pos) (f2 modD f g) := x_op op_mod sem_mod ha hb
theorem x_pow (ha : PB X a f) (hb : PB X b g) : PX X (.BinOp a .Pow b pos) (f2 powD f g) := x_op op_pow sem_pow ha hb
theorem x_neg (ha : PB X a f) : PX X (.UnaryOp .USub a pos) (f1 negD f) := x_un un_neg sem_neg ha
theorem x_lt (ha : PB X a f) (hb : PB X b g) : PX X (.Compare a [.Lt] [b] pos) (f2 ltD f g) := x_cmp op_ltIS sem_lt (nomark _) ha hb
theorem x_le (ha : PB X a f) (hb : PB X b g) : PX X (.Compare a [.LtE] [b] pos) (f2 leD f g) := x_cmp op_le sem_le (nomark _) ha hb
theorem x_gt (ha : PB X a f) (hb : PB X b g) : PX X (.Compare a [.Gt] [b] pos) (f2 gtD f g) := x_cmp op_gt sem_gt (nomark _) ha hb
theorem x_ge (ha : PB X a f) (hb : PB X b g) : PX X (.Compare a [.GtE] [b] pos) (f2 geD f g) := x_cmp op_ge sem_ge (nomark _) ha hb
end
end Pu
set_option maxRecDepth 100000
/-! Equality, membership, tests, subscripts, displays, calls. -/
namespace Pu
open PySem PySem.Spec PyProof.Rows L2

/-! ### keys -/
theorem eqv_keyD : ∀ a b : L2.Key, PyData.eqv (keyD a) (keyD b) = decide (a = b)
  | .inl i, .inl j => by
    show PyData.eqv (.int i) (.int j) = _
    rw [show PyData.eqv (.int i) (.int j) = (i == j) by simp [PyData.eqv], key_ll]
  | .inr x, .inr y => by
    show PyData.eqv (.str x) (.str y) = _
    rw [show PyData.eqv (.str x) (.str y) = (x == y) by simp [PyData.eqv], key_rr, Bool.beq_eq_decide_eq]
  | .inl i, .inr y => by
    rw [show PyData.eqv (keyD (.inl i)) (keyD (.inr y)) = false by simp [keyD, PyData.eqv]]; simp
  | .inr i, .inl y => by
    rw [show PyData.eqv (keyD (.inr i)) (keyD (.inl y)) = false by simp [keyD, PyData.eqv]]; simp
section
variable {K : PySem.W.Frag} {H F : Hp}
theorem rep_key {v : V} {d : D} (h : Rep K F v d) (k : keyOk d = true) : ∃ x : L2.Key, v = kV x ∧ d = keyD x := by
  cases h with
  | int i => exact ⟨.inl i, rfl, rfl⟩
  | str x _ => exact ⟨.inr x, rfl, rfl⟩
  | _ => simp [keyOk] at k
theorem RepK.look {k : L2.Key} : ∀ {kvs : List (L2.Key × V)} {ds : List (D × D)}, RepK K F kvs ds → (∀ v, valV kvs k = some v → ∃ d, getK ds (keyD k) = some d ∧ Rep K F v d) ∧ (valV kvs k = none → getK ds (keyD k) = none ∧ hasK ds (keyD k) = false) ∧ (valV kvs k).isSome = hasK ds (keyD k)
  | _, _, .nil => ⟨fun v h => (by cases h), fun _ => ⟨rfl, rfl⟩, rfl⟩
  | _, _, .cons (k := k') (v := v) (kvs := kvs) (d := d) (ds := ds) _ r t => by
    obtain ⟨h1, h2, h3⟩ := RepK.look (k := k) t
    by_cases e : k' = k
    · subst e
      have e1 : getK ((keyD k', d) :: ds) (keyD k') = some d := by
        unfold getK; rw [List.find?_cons]; simp [eqv_keyD]
      have e2 : hasK ((keyD k', d) :: ds) (keyD k') = true := by
        unfold hasK; rw [List.any_cons]; simp [eqv_keyD]
      rw [e1, e2, valV_pos (p := (k', v)) rfl]
      exact ⟨fun w h => by cases h; exact ⟨d, rfl, r⟩, fun h => (by cases h), rfl⟩
    · have e1 : getK ((keyD k', d) :: ds) (keyD k) = getK ds (keyD k) := by
        unfold getK; rw [List.find?_cons]; simp [eqv_keyD, e]
      have e2 : hasK ((keyD k', d) :: ds) (keyD k) = hasK ds (keyD k) := by
        unfold hasK; rw [List.any_cons]; simp [eqv_keyD, e]
      rw [e1, e2, valV_neg (p := (k', v)) e]
      exact ⟨h1, h2, h3⟩
theorem RepK.notT : ∀ {kvs : List (L2.Key × V)} {ds : List (D × D)}, RepK K F kvs ds → notT ds = true
  | _, _, .nil => rfl
  | _, _, .cons (k := k) _ _ _ => by cases k <;> rfl
/-- a dict that is read -/
theorem RepB.dict {v : V} {ds : List (D × D)} (h : RepB K H F v (.dict ds)) (s : Same F H) (n : notT ds = true) : ∃ a kvs, v = .ref a ∧ Rd H a (.dK kvs) ∧ RepK K F kvs ds := by
  rcases h with h | ⟨p, o, h1, h2, h3⟩
  · cases h with
    | dK h r => exact ⟨_, _, rfl, .inr ⟨_, s _ _ h⟩, r⟩
    | dT h r => exact absurd (show false = true from n) Bool.false_ne_true
  · unfold RepO at h3
    split at h3
    · rename_i e; cases e
    · rename_i kvs ds' e
      cases e
      exact ⟨p, kvs, h1, .inl h2, h3⟩
    · rename_i e
      cases e
      exact absurd (show false = true from n) Bool.false_ne_true
    · exact h3.elim
/-- data without dicts, by the whole heap -/
theorem RepB.dp {v : V} {d : D} (h : RepB K H F v d) (s : Same F H) (n : noDict d = true) : Dp K H v d ∧ d.canLay0 = true := by
  rcases h with h | ⟨p, o, h1, h2, h3⟩
  · exact ⟨(h.mono s).dp n, h.canLay n⟩
  · unfold RepO at h3
    split at h3
    · rename_i xs ds
      subst h1
      have n' : noDicts ds = true := by simpa [noDict] using n
      refine ⟨.lst (.of h2) ((h3.mono s).dp n'), ?_⟩
      simp only [PyData.canLay0]
      exact h3.canLay n'
    · simp [noDict] at n
    · simp [noDict] at n
    · exact h3.elim
end

/-! ### ==, != -/
def rEqW (K : PySem.W.Frag) (neg : Bool) : R2 := fun x y H Q => ∃ d e, Dp K H x d ∧ Dp K H y e ∧ d.canLay0 = true ∧ e.canLay0 = true ∧ min d.depth e.depth ≤ 64 ∧ Q (.bl (if neg then !PyData.eqv d e else PyData.eqv d e)) H
def rEqZ (neg : Bool) : R2 := fun x y H Q => ∃ (a b : Addr) (ks ls : List (L2.Key × V)), x = .ref a ∧ y = .ref b ∧ Rd H a (.dK ks) ∧ Rd H b (.dK ls) ∧ (ks.isEmpty || ls.isEmpty) = true ∧ Q (.bl (if neg then !(ks.isEmpty && ls.isEmpty) else (ks.isEmpty && ls.isEmpty))) H
section
variable {X : Cx}
theorem op_eqW (hu : X.A.units + 64 < cLine) : OpR X (compareOp .Eq) (rEqW X.K false) := by
  intro pins s σ H x y v u Q I rx ry h
  obtain ⟨d, e, hd, he, sd, se, hm, q⟩ := h
  obtain ⟨as, r1⟩ := Dp.reads I d x v hd rx
  obtain ⟨bs, r2⟩ := Dp.reads I e y u he ry
  exact SeqAt.compareEq_reads r1 r2 sd se (by omega) ⟨.bl _, H, I, rfl, q⟩
theorem op_neW (hu : X.A.units + 64 < cLine) : OpR X (compareOp .NotEq) (rEqW X.K true) := by
  intro pins s σ H x y v u Q I rx ry h
  obtain ⟨d, e, hd, he, sd, se, hm, q⟩ := h
  obtain ⟨as, r1⟩ := Dp.reads I d x v hd rx
  obtain ⟨bs, r2⟩ := Dp.reads I e y u he ry
  exact SeqAt.compareNe_reads r1 r2 sd se (by omega) ⟨.bl _, H, I, rfl, q⟩
theorem hits_empty {va vb : List (L2.Key × Value)} {A : Around} {s : Shared} (h : va = [] ∨ vb = []) (hl : va.length = vb.length) : PySem.W.KeqHits A s vb va true := by
  have : va = [] := by
    rcases h with h | h
    · exact h
    · subst h; simpa using hl
  subst this
  exact .nil
theorem len_empty {ks ls : List (L2.Key × V)} {va vb : List (L2.Key × Value)} (ra : KV ks va) (rb : KV ls vb) (h : (ks.isEmpty || ls.isEmpty) = true) : (va = [] ∨ vb = []) ∧ (va.length == vb.length && true) = (ks.isEmpty && ls.isEmpty) := by
  have h1 : ks.isEmpty = true ∨ ls.isEmpty = true := by simpa using h
  have h2 := ra.length
  have h3 := rb.length
  cases va with
  | nil =>
    cases ra
    cases vb with
    | nil => cases rb; exact ⟨.inl rfl, rfl⟩
    | cons z t =>
      cases rb
      exact ⟨.inl rfl, rfl⟩
  | cons z t =>
    cases ra
    cases vb with
    | nil => cases rb; exact ⟨.inr rfl, rfl⟩
    | cons z t => cases rb; simp at h1
theorem op_eqZ (hu : X.A.units + 64 < cLine) : OpR X (compareOp .Eq) (rEqZ false) := by
  intro pins s σ H x y v u Q I rx ry h
  obtain ⟨a, b, ks, ls, rfl, rfl, ea, eb, he, q⟩ := h
  obtain rfl : v = Value.ref a := rx
  obtain rfl : u = Value.ref b := ry
  obtain ⟨_, ya, va, ra, da⟩ := dk_rd I.hok ea
  obtain ⟨_, yb, vb, rb, db⟩ := dk_rd I.hok eb
  obtain ⟨h1, h2⟩ := len_empty ra rb he
  exact PySem.W.keq_eq (knd := mixKind X.prog X.w) (r := true) ya yb da db (by omega) (fun hl => hits_empty h1 hl) (fin_bl I q h2.symm)
theorem op_neZ (hu : X.A.units + 64 < cLine) : OpR X (compareOp .NotEq) (rEqZ true) := by
  intro pins s σ H x y v u Q I rx ry h
  obtain ⟨a, b, ks, ls, rfl, rfl, ea, eb, he, q⟩ := h
  obtain rfl : v = Value.ref a := rx
  obtain rfl : u = Value.ref b := ry
  obtain ⟨_, ya, va, ra, da⟩ := dk_rd I.hok ea
  obtain ⟨_, yb, vb, rb, db⟩ := dk_rd I.hok eb
  obtain ⟨h1, h2⟩ := len_empty ra rb he
  exact PySem.W.keq_ne (knd := mixKind X.prog X.w) (r := true) ya yb da db (by omega) (fun hl => hits_empty h1 hl) (fin_bl I q (by rw [h2]; rfl))
end
theorem RepK.isEmpty {K : PySem.W.Frag} {F : Hp} {kvs : List (L2.Key × V)} {ds : List (D × D)} (r : RepK K F kvs ds) : kvs.isEmpty = ds.isEmpty := by
  cases r <;> rfl
theorem eqB_data {x y : D} {b : Bool} (h : eqB x y = some b) : (eqOk x y = true ∧ b = PyData.eqv x y) ∨ ∃ k l, x = .dict k ∧ y = .dict l ∧ (notT k && notT l && (k.isEmpty || l.isEmpty)) = true ∧ b = (k.isEmpty && l.isEmpty) := by
  unfold eqB at h
  split at h
  · split at h
    · cases h; exact .inr ⟨_, _, rfl, rfl, by assumption, rfl⟩
    · cases h
  · split at h
    · cases h; exact .inl ⟨by assumption, rfl⟩
    · cases h
theorem sem_eqAny {K : PySem.W.Frag} {neg : Bool} {o : D → D → Option D} (ho : ∀ x y d, o x y = some d → ∃ b, eqB x y = some b ∧ d = .bool (if neg then !b else b)) : Sem2 K (fun x y H Q => rEqW K neg x y H Q ∨ rEqZ neg x y H Q) o := fun H F x y vx vy d Q s rx ry hd q => by
  obtain ⟨b, hb, rfl⟩ := ho x y d hd
  rcases eqB_data hb with ⟨hk, rfl⟩ | ⟨k, l, rfl, rfl, hk, rfl⟩
  · unfold eqOk at hk
    simp only [Bool.and_eq_true, decide_eq_true_eq] at hk
    obtain ⟨d1, c1⟩ := rx.dp s hk.1.1
    obtain ⟨d2, c2⟩ := ry.dp s hk.1.2
    exact .inl ⟨x, y, d1, d2, c1, c2, hk.2, same_q s q (.bl _)⟩
  · simp only [Bool.and_eq_true] at hk
    obtain ⟨a, kvs, rfl, e1, r1⟩ := rx.dict s hk.1.1
    obtain ⟨a2, kvs2, rfl, e2, r2⟩ := ry.dict s hk.1.2
    refine .inr ⟨a, a2, kvs, kvs2, rfl, rfl, e1, e2, ?_, ?_⟩
    · rw [r1.isEmpty, r2.isEmpty]; exact hk.2
    · rw [r1.isEmpty, r2.isEmpty]
      exact same_q s q (.bl _)
theorem sem_eq {K : PySem.W.Frag} : Sem2 K (fun x y H Q => rEqW K false x y H Q ∨ rEqZ false x y H Q) eqD := sem_eqAny fun x y d h => by
  obtain ⟨b, h1, h2⟩ := Option.map_eq_some_iff.mp h
  exact ⟨b, h1, h2.symm⟩
theorem sem_ne {K : PySem.W.Frag} : Sem2 K (fun x y H Q => rEqW K true x y H Q ∨ rEqZ true x y H Q) neD := sem_eqAny fun x y d h => by
  obtain ⟨b, h1, h2⟩ := Option.map_eq_some_iff.mp h
  exact ⟨b, h1, h2.symm⟩

/-! ### is -/
section
variable {K : PySem.W.Frag}
def rIsB (neg : Bool) : R2 := fun x y H Q => ∃ a b : Bool, x = .bl a ∧ y = .bl b ∧ Q (.bl (if neg then !decide (a = b) else decide (a = b))) H
theorem sem_is : Sem2 K L2.rIsB isD := fun H F x y vx vy d Q s rx ry hd q => by
  unfold isD at hd; split at hd
  · cases hd; exact ⟨_, _, rx.bool, ry.bool, same_q s q (.bl _)⟩
  · cases hd
theorem sem_isnt : Sem2 K L2.rNotB isntD := fun H F x y vx vy d Q s rx ry hd q => by
  unfold isntD at hd; split at hd
  · cases hd; exact ⟨_, _, rx.bool, ry.bool, same_q s q (.bl _)⟩
  · cases hd
theorem RepB.isNon {H F : Hp} {v : V} {d : D} (h : RepB K H F v d) : decide (v = .non) = (match d with | .none => true | _ => false) := by
  rcases h with h | ⟨p, o, rfl, _, h3⟩
  · cases h <;> simp
  · unfold RepO at h3
    split at h3 <;> first | exact h3.elim | simp
end
section
variable {X : Cx} {a b : Expr} {f g : F1} {pos : Pos}
theorem x_eq (hu : X.A.units + 64 < cLine) (ha : PB X a f) (hb : PB X b g) : PX X (.Compare a [.Eq] [b] pos) (f2 eqD f g) := x_cmp (OpR.or (op_eqW hu) (op_eqZ hu)) sem_eq (nomark _) ha hb
theorem x_ne (hu : X.A.units + 64 < cLine) (ha : PB X a f) (hb : PB X b g) : PX X (.Compare a [.NotEq] [b] pos) (f2 neD f g) := x_cmp (OpR.or (op_neW hu) (op_neZ hu)) sem_ne (nomark _) ha hb
theorem x_is (ha : PB X a f) (hb : PB X b g) : PX X (.Compare a [.Is] [b] pos) (f2 isD f g) := x_cmp op_isBl sem_is (nomark _) ha hb
theorem x_isnt (ha : PB X a f) (hb : PB X b g) : PX X (.Compare a [.IsNot] [b] pos) (f2 isntD f g) := x_cmp op_notBl sem_isnt (nomark _) ha hb
theorem x_isN {j : Nat} {pos' : Pos} (ha : PB X a f) : PX X (.Compare a [.Is] [.Constant .none j pos'] pos) (f1 isNoneD f) := peImp (pe_cmp (pc_isN ha)) fun σ H Q ⟨H0, F0, F, ρ, d, S, hd, q⟩ => by
  obtain ⟨x, hx, hop⟩ := f1_some hd
  refine ⟨H0, F0, F, ρ, x, S, hx, fun H1 F1 v e1 r1 => ?_⟩
  show Q (.bl (decide (v = .non))) H1
  rw [r1.isNon]
  cases x <;> cases hop <;> exact q H1 F1 _ e1 (.bl _)
theorem x_notN {j : Nat} {pos' : Pos} (ha : PB X a f) : PX X (.Compare a [.IsNot] [.Constant .none j pos'] pos) (f1 notNoneD f) := peImp (pe_cmp (pc_notN ha)) fun σ H Q ⟨H0, F0, F, ρ, d, S, hd, q⟩ => by
  obtain ⟨x, hx, hop⟩ := f1_some hd
  refine ⟨H0, F0, F, ρ, x, S, hx, fun H1 F1 v e1 r1 => ?_⟩
  show Q (.bl (!decide (v = .non))) H1
  rw [r1.isNon]
  cases x <;> cases hop <;> exact q H1 F1 _ e1 (.bl _)
end

/-! ### in, not in -/
theorem flatV_of {K : PySem.W.Frag} {F : Hp} {v : V} {d : D} (h : Rep K F v d) (c : flatD d = true) : flatV v = true := by
  cases h <;> first | rfl | simp [flatD] at c
theorem flatD_con {d : D} (c : flatD d = true) : isCon d = false := by cases d <;> first | rfl | simp [flatD] at c
theorem eqV_of {K : PySem.W.Frag} {F : Hp} {v w : V} {d e : D} (h : Rep K F v d) (h' : Rep K F w e) (c : flatD d = true) (c' : flatD e = true) : eqV v w = PyData.eqv d e := by
  cases h <;> first | (simp [flatD] at c; done) | (cases h' <;> first | (simp [flatD] at c'; done) | (simp [eqV, PyData.eqv]; done) | (simp [eqV, PyData.eqv, Bool.beq_eq_decide_eq]; done) | rfl)
theorem inV_of {K : PySem.W.Frag} {F : Hp} {v : V} {d : D} (h : Rep K F v d) (c : flatD d = true) : ∀ {xs : List V} {ds : List D}, Reps K F xs ds → ds.all flatD = true → inV v xs = inL d ds ∧ xs.all flatV = true
  | _, _, .nil, _ => ⟨rfl, rfl⟩
  | _, _, .cons (v := y) (vs := ys) (d := e) (ds := es) r t, q => by
    rw [List.all_cons, Bool.and_eq_true] at q
    obtain ⟨h1, h2⟩ := inV_of h c t q.2
    constructor
    · show (y :: ys).any _ = (e :: es).any _
      rw [List.any_cons, List.any_cons, eqV_of r h q.1 c]
      exact congrArg _ h1
    · rw [List.all_cons, flatV_of r q.1, h2]; rfl
def rInAll (K : PySem.W.Frag) (neg : Bool) : R2 := fun x y H Q =>
  ((rIn K neg x y H Q ∨ (if neg then rNotInD K else rInD K) x y H Q) ∨ (∃ i j, x = .str i ∧ y = .str j ∧ Q (.bl (if neg then !(!(Builtin.Str.occurrences j i 0 j.length 1).isEmpty) else !(Builtin.Str.occurrences j i 0 j.length 1).isEmpty)) H)) ∨
  ∃ a o, y = .ref a ∧ DGet H a x o ∧ Q (.bl (if neg then !o.isSome else o.isSome)) H
section
variable {X : Cx}
theorem op_inDict (hu : X.A.units + 64 < cLine) : OpR X (compareOp .In) (fun x y H Q => ∃ a o, y = .ref a ∧ DGet H a x o ∧ Q (.bl o.isSome) H) := by
  intro pins s σ H x y v u Q I rx ry h
  obtain ⟨a, o, rfl, g, q⟩ := h
  obtain rfl : u = Value.ref a := ry
  exact d_in (by omega) I g rx fun s' I' => ⟨.bl o.isSome, H, I', rfl, q⟩
theorem op_notInDict (hu : X.A.units + 64 < cLine) : OpR X (compareOp .NotIn) (fun x y H Q => ∃ a o, y = .ref a ∧ DGet H a x o ∧ Q (.bl (!o.isSome)) H) := by
  intro pins s σ H x y v u Q I rx ry h
  obtain ⟨a, o, rfl, g, q⟩ := h
  obtain rfl : u = Value.ref a := ry
  exact d_notIn (by omega) I g rx fun s' I' => ⟨.bl (!o.isSome), H, I', rfl, q⟩
theorem op_inAll (hu : X.A.units + 65 < cLine) : OpR X (compareOp .In) (rInAll X.K false) := OpR.or (OpR.or (OpR.or op_in_seq (op_inD hu)) op_in_str) (op_inDict (by omega))
theorem op_notInAll (hu : X.A.units + 65 < cLine) : OpR X (compareOp .NotIn) (rInAll X.K true) := OpR.or (OpR.or (OpR.or op_notIn_seq (op_notInD hu)) op_notIn_str) (op_notInDict (by omega))
end
section
variable {K : PySem.W.Frag}
theorem shaped_of {H F : Hp} {v : V} {d : D} (h : RepB K H F v d) (s : Same F H) (n : noDict d = true) (l : d.depth ≤ 64) : SeqAt.shaped d = true := by
  unfold SeqAt.shaped
  rw [(h.dp s n).2, decide_eq_true l]; rfl
theorem sem_inAny {neg : Bool} {o : D → D → Option D} (ho : ∀ x y d, o x y = some d → ∃ b, inB x y = some b ∧ d = .bool (if neg then !b else b)) : Sem2 K (rInAll K neg) o := fun H F x y vx vy d Q s rx ry hd q => by
  obtain ⟨b, hb, rfl⟩ := ho x y d hd
  have q' : Q (.bl (if neg = true then !b else b)) H := same_q s q (.bl _)
  have flat : ∀ {ds : List D} {a : Addr} {xs : List V}, vy = .ref a → SqL K H a xs ∨ SqT K H a xs → Reps K F xs ds → (flatD x && ds.all flatD) = true → b = inL x ds → rIn K neg vx vy H Q := fun {ds a xs} e hs r hc eb => by
    rw [Bool.and_eq_true] at hc
    have rx' := rx.rep (flatD_con hc.1)
    obtain ⟨h1, h2⟩ := inV_of rx' hc.1 r hc.2
    refine ⟨a, xs, e, hs, flatV_of rx' hc.1, h2, ?_⟩
    rw [h1, ← eb]; exact q'
  unfold inB at hb
  split at hb
  · split at hb
    · rename_i x' ds hc
      cases hb
      obtain ⟨a, xs, rfl, hs, r⟩ := ry.list s
      rw [Bool.or_eq_true] at hc
      rcases hc with hc | hc
      · exact .inl (.inl (.inl (flat rfl (.inl hs) r hc rfl)))
      · simp only [Bool.and_eq_true, decide_eq_true_eq] at hc
        obtain ⟨d1, _⟩ := rx.dp s hc.1.1.1
        have nl : noDict (PyData.list ds) = true := by simpa [noDict] using hc.1.1.2
        obtain ⟨d2, _⟩ := ry.dp s nl
        refine .inl (.inl (.inr ?_))
        cases neg with
        | true => exact ⟨x, ds, d1, d2, shaped_of rx s hc.1.1.1 hc.1.2, shaped_of ry s nl hc.2, q'⟩
        | false => exact ⟨x, ds, d1, d2, shaped_of rx s hc.1.1.1 hc.1.2, shaped_of ry s nl hc.2, q'⟩
    · cases hb
  · split at hb
    · rename_i x' ds hc
      cases hb
      obtain ⟨a, xs, rfl, _, hs, r⟩ := ry.tuple s
      exact .inl (.inl (.inl (flat rfl (.inr hs) r hc rfl)))
    · cases hb
  · cases hb
    refine .inl (.inr ⟨_, _, rx.str.1, ry.str.1, ?_⟩)
    cases neg <;> exact q'
  · split at hb
    · rename_i x' kvs _ hc
      cases hb
      simp only [Bool.and_eq_true] at hc
      obtain ⟨a, ks, rfl, e, r⟩ := ry.dict s hc.2
      have hf : isCon x = false := by
        cases x <;> first | rfl | simp [keyOk] at hc
      obtain ⟨k, rfl, rfl⟩ := rep_key (rx.rep hf) hc.1
      obtain ⟨_, _, h3⟩ := r.look (k := k)
      refine .inr ⟨a, valV ks k, rfl, .inl ⟨ks, k, e, rfl, rfl⟩, ?_⟩
      rw [h3]; exact q'
    · cases hb
  · cases hb
theorem sem_in : Sem2 K (rInAll K false) inD := sem_inAny fun x y d h => by
  obtain ⟨b, h1, h2⟩ := Option.map_eq_some_iff.mp h
  exact ⟨b, h1, h2.symm⟩
theorem sem_notIn : Sem2 K (rInAll K true) notInD := sem_inAny fun x y d h => by
  obtain ⟨b, h1, h2⟩ := Option.map_eq_some_iff.mp h
  exact ⟨b, h1, h2.symm⟩
end
section
variable {X : Cx} {a b : Expr} {f g : F1} {pos : Pos}
theorem x_in (hu : X.A.units + 64 + 1 < cLine) (ha : PB X a f) (hb : PB X b g) (hm : behindInMarks .In b = false := by rfl) : PX X (.Compare a [.In] [b] pos) (f2 inD f g) := x_cmp (op_inAll hu) sem_in hm ha hb
theorem x_notIn (hu : X.A.units + 64 + 1 < cLine) (ha : PB X a f) (hb : PB X b g) (hm : behindInMarks .NotIn b = false := by rfl) : PX X (.Compare a [.NotIn] [b] pos) (f2 notInD f g) := x_cmp (op_notInAll hu) sem_notIn hm ha hb
end
end Pu
set_option maxRecDepth 100000
/-! Tests, and, or, if, subscripts, slices, displays, calls. -/
namespace Pu
open PySem PySem.Spec PyProof.Rows L2

section
variable {X : Cx} {e a b c : Expr} {f g h : F1} {t u : FB} {rest : List Expr} {pos : Pos}
theorem tOf_some {ρ : Rho} {k : Bool} (q : tOf f ρ = some k) : f ρ = some (.bool k) := by
  unfold tOf at q
  split at q
  · rename_i e; cases q; exact e
  · cases q
/-- a value True or False, as a test -/
theorem t_val (p : PX X e f) (he : ∀ whole, isTrue e X.env whole = (do let v ← whole; standAt e.pos; holding [v] (truthy v)) := by intro _; rfl) : PTs' X e (tOf f) := ptImp (pt_val p he) fun σ H Q ⟨H0, F0, F, ρ, k, S, hd, q⟩ => by
  refine ⟨H0, F0, F, ρ, .bool k, S, tOf_some hd, fun H' F' v x r => ?_⟩
  cases r
  exact ⟨k, rfl, q H' F' x⟩
/-- a comparison, as a test -/
theorem t_cmp {op : CmpOp} {r : R2} {o : D → D → Option D} (ho : OpR X (compareOp op) r) (sem : Sem2 X.K r o) (hm : behindInMarks op b = false) (ha : PB X a f) (hb : PB X b g) : PTs' X (.Compare a [op] [b] pos) (tOf (f2 o f g)) :=
  ptImp (pt_cmpR ho ha hb hm) fun σ H Q ⟨H0, F0, F, ρ, k, S, hd, q⟩ => by
  have hd' := tOf_some hd
  have go := bin_go (K := X.K) (f := f) (g := g) sem σ H (fun v H' => ∃ k, v = .bl k ∧ Q k H') ⟨H0, F0, F, ρ, .bool k, S, hd', fun H' F' v x r => by cases r; exact ⟨k, rfl, q H' F' x⟩⟩
  exact go
theorem t_eq (hu : X.A.units + 64 < cLine) (ha : PB X a f) (hb : PB X b g) : PTs' X (.Compare a [.Eq] [b] pos) (tOf (f2 eqD f g)) := t_cmp (OpR.or (op_eqW hu) (op_eqZ hu)) sem_eq (nomark _) ha hb
theorem t_ne (hu : X.A.units + 64 < cLine) (ha : PB X a f) (hb : PB X b g) : PTs' X (.Compare a [.NotEq] [b] pos) (tOf (f2 neD f g)) := t_cmp (OpR.or (op_neW hu) (op_neZ hu)) sem_ne (nomark _) ha hb
theorem t_lt (ha : PB X a f) (hb : PB X b g) : PTs' X (.Compare a [.Lt] [b] pos) (tOf (f2 ltD f g)) := t_cmp op_ltIS sem_lt (nomark _) ha hb
theorem t_le (ha : PB X a f) (hb : PB X b g) : PTs' X (.Compare a [.LtE] [b] pos) (tOf (f2 leD f g)) := t_cmp op_le sem_le (nomark _) ha hb
theorem t_gt (ha : PB X a f) (hb : PB X b g) : PTs' X (.Compare a [.Gt] [b] pos) (tOf (f2 gtD f g)) := t_cmp op_gt sem_gt (nomark _) ha hb
theorem t_ge (ha : PB X a f) (hb : PB X b g) : PTs' X (.Compare a [.GtE] [b] pos) (tOf (f2 geD f g)) := t_cmp op_ge sem_ge (nomark _) ha hb
theorem t_is (ha : PB X a f) (hb : PB X b g) : PTs' X (.Compare a [.Is] [b] pos) (tOf (f2 isD f g)) := t_cmp op_isBl sem_is (nomark _) ha hb
theorem t_isnt (ha : PB X a f) (hb : PB X b g) : PTs' X (.Compare a [.IsNot] [b] pos) (tOf (f2 isntD f g)) := t_cmp op_notBl sem_isnt (nomark _) ha hb
theorem t_in (hu : X.A.units + 64 + 1 < cLine) (ha : PB X a f) (hb : PB X b g) (hm : behindInMarks .In b = false := by rfl) : PTs' X (.Compare a [.In] [b] pos) (tOf (f2 inD f g)) := t_cmp (op_inAll hu) sem_in hm ha hb
theorem t_notIn (hu : X.A.units + 64 + 1 < cLine) (ha : PB X a f) (hb : PB X b g) (hm : behindInMarks .NotIn b = false := by rfl) : PTs' X (.Compare a [.NotIn] [b] pos) (tOf (f2 notInD f g)) := t_cmp (op_notInAll hu) sem_notIn hm ha hb
theorem t_isN {j : Nat} {pos' : Pos} (ha : PB X a f) : PTs' X (.Compare a [.Is] [.Constant .none j pos'] pos) (tOf (f1 isNoneD f)) := ptImp (pt_cmp (pc_isN ha)) fun σ H Q ⟨H0, F0, F, ρ, k, S, hd, q⟩ => by
  obtain ⟨x, hx, hop⟩ := f1_some (tOf_some hd)
  refine ⟨H0, F0, F, ρ, x, S, hx, fun H1 F1 v e1 r1 => ?_⟩
  show ∃ c, V.bl (decide (v = .non)) = .bl c ∧ Q c H1
  rw [r1.isNon]
  cases x <;> cases hop <;> exact ⟨_, rfl, q H1 F1 e1⟩
theorem t_notN {j : Nat} {pos' : Pos} (ha : PB X a f) : PTs' X (.Compare a [.IsNot] [.Constant .none j pos'] pos) (tOf (f1 notNoneD f)) := ptImp (pt_cmp (pc_notN ha)) fun σ H Q ⟨H0, F0, F, ρ, k, S, hd, q⟩ => by
  obtain ⟨x, hx, hop⟩ := f1_some (tOf_some hd)
  refine ⟨H0, F0, F, ρ, x, S, hx, fun H1 F1 v e1 r1 => ?_⟩
  show ∃ c, V.bl (!decide (v = .non)) = .bl c ∧ Q c H1
  rw [r1.isNon]
  cases x <;> cases hop <;> exact ⟨_, rfl, q H1 F1 e1⟩
theorem t_not (p : PTs' X a t) : PTs' X (.UnaryOp .Not a pos) (tNot t) := ptImp (pt_not p) fun σ H Q ⟨H0, F0, F, ρ, k, S, hd, q⟩ => by
  obtain ⟨x, hx, rfl⟩ := Option.map_eq_some_iff.mp hd
  exact ⟨H0, F0, F, ρ, x, S, hx, fun H' F' e => q H' F' e⟩
theorem w_and1 (p : PTs' X a t) : PWs X (.BoolOp .And [a] pos) t := pw_and1 p
theorem w_or1 (p : PTs' X a t) : PWs X (.BoolOp .Or [a] pos) t := pw_or1 p
theorem w_and (p : PTs' X a t) (r : PWs X (.BoolOp .And (b :: rest) pos) u) : PWs X (.BoolOp .And (a :: b :: rest) pos) (tAnd t u) := pwImp (pw_and p r) fun σ H Q ⟨H0, F0, F, ρ, k, S, hd, q⟩ => by
  obtain ⟨x, hx, h2⟩ := Option.bind_eq_some_iff.mp hd
  refine ⟨H0, F0, F, ρ, x, S, hx, fun H1 F1 e1 => ?_⟩
  cases x with
  | true => exact iteT ⟨H0, F0, F1, ρ, k, S.ext e1, h2, fun H' F' e => q H' F' (e1.trans e)⟩
  | false =>
    cases h2
    exact iteF (q H1 F1 e1)
theorem w_or (p : PTs' X a t) (r : PWs X (.BoolOp .Or (b :: rest) pos) u) : PWs X (.BoolOp .Or (a :: b :: rest) pos) (tOr t u) := pwImp (pw_or p r) fun σ H Q ⟨H0, F0, F, ρ, k, S, hd, q⟩ => by
  obtain ⟨x, hx, h2⟩ := Option.bind_eq_some_iff.mp hd
  refine ⟨H0, F0, F, ρ, x, S, hx, fun H1 F1 e1 => ?_⟩
  cases x with
  | false => exact iteF ⟨H0, F0, F1, ρ, k, S.ext e1, h2, fun H' F' e => q H' F' (e1.trans e)⟩
  | true =>
    cases h2
    exact iteT (q H1 F1 e1)
theorem w_pt (p : PWs X a t) : PTs' X a t := p.pt
/-! as values -/
theorem x_one {op : BoolOp} (p : PX X a f) : PX X (.BoolOp op [a] pos) f := pe_one p
theorem x_and (p : PX X a f) (r : PX X (.BoolOp .And (b :: rest) pos) g) : PX X (.BoolOp .And (a :: b :: rest) pos) (fAnd f g) := peImp (pe_and p r) fun σ H Q ⟨H0, F0, F, ρ, d, S, hd, q⟩ => by
  unfold fAnd at hd
  split at hd
  · rename_i e
    refine ⟨H0, F0, F, ρ, _, S, e, fun H1 F1 v e1 r1 => ?_⟩
    cases r1
    exact ⟨true, rfl, iteT ⟨H0, F0, F1, ρ, d, S.ext e1, hd, fun H' F' v e r => q H' F' v (e1.trans e) r⟩⟩
  · rename_i e
    cases hd
    refine ⟨H0, F0, F, ρ, _, S, e, fun H1 F1 v e1 r1 => ?_⟩
    cases r1
    exact ⟨false, rfl, iteF (q H1 F1 _ e1 (.bl _))⟩
  · cases hd
theorem x_or (p : PX X a f) (r : PX X (.BoolOp .Or (b :: rest) pos) g) : PX X (.BoolOp .Or (a :: b :: rest) pos) (fOr f g) := peImp (pe_or p r) fun σ H Q ⟨H0, F0, F, ρ, d, S, hd, q⟩ => by
  unfold fOr at hd
  split at hd
  · rename_i e
    refine ⟨H0, F0, F, ρ, _, S, e, fun H1 F1 v e1 r1 => ?_⟩
    cases r1
    exact ⟨false, rfl, iteF ⟨H0, F0, F1, ρ, d, S.ext e1, hd, fun H' F' v e r => q H' F' v (e1.trans e) r⟩⟩
  · rename_i e
    cases hd
    refine ⟨H0, F0, F, ρ, _, S, e, fun H1 F1 v e1 r1 => ?_⟩
    cases r1
    exact ⟨true, rfl, iteT (q H1 F1 _ e1 (.bl _))⟩
  · cases hd
theorem x_not (p : PX X a f) : PX X (.UnaryOp .Not a pos) (f1 notD f) := peImp (pe_not p) fun σ H Q ⟨H0, F0, F, ρ, d, S, hd, q⟩ => by
  obtain ⟨x, hx, hop⟩ := f1_some hd
  unfold notD at hop
  split at hop
  · cases hop
    refine ⟨H0, F0, F, ρ, _, S, hx, fun H1 F1 v e1 r1 => ?_⟩
    cases r1
    exact ⟨_, rfl, q H1 F1 _ e1 (.bl _)⟩
  · cases hop
theorem x_if (p : PTs' X c t) (pa : PX X a f) (pb : PX X b g) : PX X (.IfExp c a b pos) (fIf t f g) := peImp (pe_ifExp p pa pb) fun σ H Q ⟨H0, F0, F, ρ, d, S, hd, q⟩ => by
  obtain ⟨x, hx, h2⟩ := Option.bind_eq_some_iff.mp hd
  refine ⟨H0, F0, F, ρ, x, S, hx, fun H1 F1 e1 => ?_⟩
  cases x with
  | true => exact iteT ⟨H0, F0, F1, ρ, d, S.ext e1, h2, fun H' F' v e r => q H' F' v (e1.trans e) r⟩
  | false => exact iteF ⟨H0, F0, F1, ρ, d, S.ext e1, h2, fun H' F' v e r => q H' F' v (e1.trans e) r⟩
/-- a <= b <= c -/
theorem chain_go {K : PySem.W.Frag} {o1 o2 : D → D → Option D} {r1 r2 : R2} (s1 : Sem2 K r1 o1) (s2 : Sem2 K r2 o2) : ∀ σ H Q, tX K (fChain o1 o2 f g h) σ H Q → tChain r1 r2 (tBw K f) (tBw K g) (tBw K h) σ H Q := fun σ H Q ⟨H0, F0, F, ρ, d, S, hd, q⟩ => by
  obtain ⟨x, hx, h2⟩ := Option.bind_eq_some_iff.mp hd
  obtain ⟨y, hy, h3⟩ := Option.bind_eq_some_iff.mp h2
  refine ⟨H0, F0, F, ρ, x, S, hx, fun H1 F1 v e1 q1 => ⟨H0, F0, F1, ρ, y, S.ext e1, hy, fun H2 F2 w e2 q2 => ?_⟩⟩
  split at h3
  · rename_i e
    refine s1 H2 F2 x y v w _ _ e2.sub (q1.mono e2.h e2.f) q2 e fun H3 F3 z e3 q3 => ?_
    cases q3
    refine ⟨true, rfl, ?_⟩
    obtain ⟨z, hz, h4⟩ := Option.bind_eq_some_iff.mp h3
    refine iteT ⟨H0, F0, F3, ρ, z, ((S.ext e1).ext e2).ext e3, hz, fun H4 F4 u e4 q4 => ?_⟩
    exact s2 H4 F4 y z w u d Q e4.sub (q2.mono (e3.h.trans e4.h) (e3.f.trans e4.f)) q4 h4 fun H5 F5 u5 e5 q5 => q H5 F5 u5 ((((e1.trans e2).trans e3).trans e4).trans e5) q5
  · rename_i e
    cases h3
    refine s1 H2 F2 x y v w _ _ e2.sub (q1.mono e2.h e2.f) q2 e fun H3 F3 z e3 q3 => ?_
    cases q3
    exact ⟨false, rfl, iteF (q H3 F3 _ ((e1.trans e2).trans e3) (.bl _))⟩
  · cases h3
end
end Pu
set_option maxRecDepth 100000
/-! Subscripts, slices, displays, calls. -/
namespace Pu
open PySem PySem.Spec PyProof.Rows L2

/-! ### chains -/
section
variable {X : Cx} {a b c : Expr} {f g h : F1} {pos : Pos}
theorem x_chain {op op' : CmpOp} {r r' : R2} {o1 o2 : D → D → Option D} (ho : OpR X (compareOp op) r) (ho' : OpR X (compareOp op') r') (s1 : Sem2 X.K r o1) (s2 : Sem2 X.K r' o2) (ha : PB X a f) (hb : PB X b g) (hc : PB X c h)
    (hm : lastMarks [op, op'] [b, c] = false := by with_unfolding_all rfl) : PX X (.Compare a [op, op'] [b, c] pos) (fChain o1 o2 f g h) := peImp (pe_chain ho ho' ha hb hc hm) (chain_go s1 s2)
theorem t_chain {op op' : CmpOp} {r r' : R2} {o1 o2 : D → D → Option D} (ho : OpR X (compareOp op) r) (ho' : OpR X (compareOp op') r') (s1 : Sem2 X.K r o1) (s2 : Sem2 X.K r' o2) (ha : PB X a f) (hb : PB X b g) (hc : PB X c h)
    (hm : lastMarks [op, op'] [b, c] = false := by with_unfolding_all rfl) : PTs' X (.Compare a [op, op'] [b, c] pos) (tOf (fChain o1 o2 f g h)) := ptImp (pt_chain ho ho' ha hb hc hm) fun σ H Q ⟨H0, F0, F, ρ, k, S, hd, q⟩ =>
  chain_go (K := X.K) (f := f) (g := g) (h := h) s1 s2 σ H (fun v H' => ∃ k, v = .bl k ∧ Q k H') ⟨H0, F0, F, ρ, .bool k, S, tOf_some hd, fun H' F' v x r => by cases r; exact ⟨k, rfl, q H' F' x⟩⟩
theorem x_lele (ha : PB X a f) (hb : PB X b g) (hc : PB X c h) (hm : lastMarks [.LtE, .LtE] [b, c] = false := by with_unfolding_all rfl) : PX X (.Compare a [.LtE, .LtE] [b, c] pos) (fChain leD leD f g h) := x_chain op_le op_le sem_le sem_le ha hb hc hm
theorem t_lele (ha : PB X a f) (hb : PB X b g) (hc : PB X c h) (hm : lastMarks [.LtE, .LtE] [b, c] = false := by with_unfolding_all rfl) : PTs' X (.Compare a [.LtE, .LtE] [b, c] pos) (tOf (fChain leD leD f g h)) := t_chain op_le op_le sem_le sem_le ha hb hc hm
end

/-! ### a[i] -/
def rIxD : R2 := fun x y H Q => ∃ a v, x = .ref a ∧ DGet H a y (some v) ∧ Q v H
section
variable {X : Cx}
theorem ix_dict (hu : X.A.units + 64 < cLine) : IxR X rIxD := by
  intro value slice pins s σ H x y v u Q I rx ry h hs
  obtain ⟨a, w, rfl, g, q⟩ := h
  obtain rfl : v = Value.ref a := rx
  have hT := dict_typeIs I g
  unfold subscriptTail
  refine wpAny_bind ?_
  rw [getitemInPython_of_ne hT.not_modules]
  refine wpAny_bind (wpAny_specialOf hT PySem.F.slot_dict_getitem.lookup ?_)
  have fin : wpAny (model X.prog X.w) X.A (subscripted slice false (.ref a) u) (fun r s₃ => wpAny (model X.prog X.w) X.A (letTemporaryGo value (.ref a) r >>= fun _ => pure r) (EP X pins σ Q) X.xe s₃) X.xe s := by
    rw [hs]
    exact wpAny_operating (wpAny_mono (d_getItem (Q := EP X pins σ Q) (by omega) I g ry fun w' s3 I3 rw' => ⟨w, H, I3, rw', q⟩) (fun r s₃ h₃ => wpAny_bind (wpAny_letTemporaryGo (wpAny_pure h₃))) fun _ _ x => x)
  first
    | exact wpAny_pure (wpAny_bind fin)
    | exact wpAny_bind (wpAny_pure (wpAny_bind fin))
    | exact wpAny_bind fin
def rIxAll (K : PySem.W.Frag) : R2 := fun x y H Q => (rIxL K x y H Q ∨ rIxT K x y H Q) ∨ rIxD x y H Q
theorem ix_all (hu : X.A.units + 64 < cLine) : IxR X (rIxAll X.K) := IxR.or (IxR.or ix_list ix_tup) (ix_dict hu)
end
theorem atI_some {α : Type} {xs : List α} {i : Int} {v : α} (h : atI xs i = some v) : ∃ j, ixN xs.length i = some j ∧ xs[j]? = some v := Option.bind_eq_some_iff.mp h
theorem Reps.atI {K : PySem.W.Frag} {F : Hp} {xs : List V} {ds : List D} {i : Int} {d : D} (r : Reps K F xs ds) (h : atI ds i = some d) : ∃ x, L2.atI xs i = some x ∧ Rep K F x d := by
  obtain ⟨j, h1, h2⟩ := atI_some h
  obtain ⟨x, h3, r3⟩ := r.get h2
  refine ⟨x, ?_, r3⟩
  unfold L2.atI
  rw [r.length, h1]
  exact h3
section
variable {K : PySem.W.Frag}
theorem sem_ix : Sem2 K (rIxAll K) ixD := fun H F x y vx vy d Q s rx ry hd q => by
  unfold ixD at hd
  split at hd
  · obtain ⟨a, xs, rfl, hs, r⟩ := rx.list s
    obtain ⟨v, h1, r1⟩ := r.atI hd
    exact .inl (.inl ⟨a, xs, _, v, rfl, ry.int, hs, h1, same_q s q r1⟩)
  · obtain ⟨a, xs, rfl, _, hs, r⟩ := rx.tuple s
    obtain ⟨v, h1, r1⟩ := r.atI hd
    exact .inl (.inr ⟨a, xs, _, v, rfl, ry.int, hs, h1, same_q s q r1⟩)
  · split at hd
    · rename_i hc
      simp only [Bool.and_eq_true] at hc
      obtain ⟨a, ks, rfl, e, r⟩ := rx.dict s hc.2
      have hf : isCon y = false := by
        cases y <;> first | rfl | simp [keyOk] at hc
      obtain ⟨k, rfl, rfl⟩ := rep_key (ry.rep hf) hc.1
      obtain ⟨h1, h2, h3⟩ := r.look (k := k)
      cases l : valV ks k with
      | none => rw [(h2 l).1] at hd; cases hd
      | some v =>
        obtain ⟨d', e', r'⟩ := h1 v l
        rw [hd] at e'
        cases e'
        exact .inr ⟨a, v, rfl, .inl ⟨ks, k, e, rfl, l.symm⟩, same_q s q r'⟩
    · cases hd
  · cases hd
end
section
variable {X : Cx} {a b : Expr} {f g : F1} {pos p2 : Pos} {lo hi : Option Expr} {l u : Option F1}
theorem x_ix (hu : X.A.units + 64 < cLine) (ha : PB X a f) (hb : PB X b g) (hs : PlainIx b := by intro _ _; rfl) : PX X (.Subscript a b pos) (f2 ixD f g) := peImp (pe_ix (ix_all hu) ha hb hs) (bin_go sem_ix)

/-! ### slices -/
def tPt (K : PySem.W.Frag) (f : Option F1) : TO := fun σ H Q => ∃ (H0 F0 F : Hp) (ρ : Rho) (i : Option Int), St K H0 F0 H F σ ρ ∧ partO f ρ = some i ∧ ∀ H' F', Ext H F H' F' → Q i H'
theorem p_none : PO X none (tPt X.K none) := ⟨fun pins s σ H Q I ⟨H0, F0, F, ρ, i, S, hd, q⟩ => po_none.run pins s σ H Q I (by cases hd; exact q H F (Ext.refl S.sub))⟩
theorem p_some (h : PB X a f) : PO X (some a) (tPt X.K (some f)) := ⟨fun pins s σ H Q I ⟨H0, F0, F, ρ, i, S, hd, q⟩ => (po_some h).run pins s σ H Q I (by
  simp only [partO] at hd
  cases e : f ρ with
  | none => rw [e] at hd; cases hd
  | some d =>
    rw [e] at hd
    cases d <;> first | (cases hd; done) | skip
    cases hd
    refine ⟨H0, F0, F, ρ, _, S, e, fun H1 F1 v e1 r1 => ?_⟩
    cases r1.int
    exact ⟨_, rfl, q H1 F1 e1⟩)⟩
theorem x_cut (ha : PB X a f) (hl : PO X lo (tPt X.K l)) (hh : PO X hi (tPt X.K u)) : PX X (.Subscript a (.Slice lo hi none p2) pos) (fCut f l u) := peImp (pe_slice (SlR.or sl_list sl_tupA) ha hl hh) fun σ H Q ⟨H0, F0, F, ρ, d, S, hd, q⟩ => by
  obtain ⟨x, hx, h2⟩ := Option.bind_eq_some_iff.mp hd
  obtain ⟨i, hi', h3⟩ := Option.bind_eq_some_iff.mp h2
  obtain ⟨j, hj, h4⟩ := Option.bind_eq_some_iff.mp h3
  refine ⟨H0, F0, F, ρ, x, S, hx, fun H1 F1 v e1 r1 => ⟨H0, F0, F1, ρ, i, S.ext e1, hi', fun H2 F2 e2 => ⟨H0, F0, F2, ρ, j, (S.ext e1).ext e2, hj, fun H3 F3 e3 => ?_⟩⟩⟩
  have s3 : Same F3 H3 := e3.sub
  have r3 := r1.mono (e2.h.trans e3.h) (e2.f.trans e3.f)
  have q' : ∀ H' F' v, Ext H3 F3 H' F' → Rep X.K F' v d → Q v H' := fun H' F' v e r => q H' F' v (((e1.trans e2).trans e3).trans e) r
  unfold cutD at h4
  split at h4
  · cases h4
    obtain ⟨a, xs, rfl, hs, r⟩ := r3.list s3
    exact .inl ⟨a, xs, rfl, hs, new_lst s3 q' (r.cut i j)⟩
  · cases h4
    obtain ⟨a, xs, rfl, hf, hs, r⟩ := r3.tuple s3
    refine .inr ⟨a, xs, rfl, hs, fun hw => ?_, fun _ => new_tup s3 q' (r.cut i j)⟩
    have hw' : cutV xs i j = xs := by
      unfold cutV
      rw [hw.1, hw.2]; simp
    have rc := r.cut i j
    rw [hw'] at rc
    exact same_q s3 q' (.tup hf rc)
  · cases h4
end

/-! ### x[::-1] -/
theorem fm_map {α β : Type} (f : α → Option β) (g : α → β) : ∀ l : List α, (∀ m ∈ l, f m = some (g m)) → l.filterMap f = l.map g
  | [], _ => rfl
  | x :: l, h => by
    rw [List.filterMap_cons, h x List.mem_cons_self, List.map_cons, fm_map f g l fun m hm => h m (List.mem_cons_of_mem _ hm)]
theorem revPick (xs : Array Value) : ((List.range xs.size).filterMap fun (m : Nat) => xs[(((xs.size : Int) - 1) + (m : Int) * (-1)).toNat]?).toArray = xs.toList.reverse.toArray := by
  congr 1
  rw [fm_map _ (fun m => xs.toList.reverse.getD m .none) _ fun m hm => ?_]
  · apply List.ext_getElem?
    intro i
    by_cases hi : i < xs.size
    · have hl : i < xs.toList.reverse.length := by simpa using hi
      rw [List.getElem?_map, List.getElem?_range hi, List.getElem?_eq_getElem hl]
      show some (xs.toList.reverse.getD i .none) = _
      rw [List.getD_eq_getElem?_getD, List.getElem?_eq_getElem hl]; rfl
    · rw [List.getElem?_eq_none (by simpa using hi), List.getElem?_eq_none (by simpa using hi)]
  · have hm' : m < xs.size := List.mem_range.mp hm
    have e1 : (((xs.size : Int) - 1) + (m : Int) * (-1)).toNat = xs.size - 1 - m := by omega
    have hl : m < xs.toList.reverse.length := by simpa using hm'
    rw [e1, List.getD_eq_getElem?_getD, List.getElem?_eq_getElem hl]
    simp
theorem applied_rev {prog : Program} {w : World} {A : Around} {E : Value → Shared → Prop} {s : Shared} {sl : Addr} {vl vu vs : Value} {n : Nat} {Q : Int × Int × Nat → Shared → Prop}
    (hs : s.heap.IsSliceOf sl vl vu vs) (pl : IsPart vl none) (pu : IsPart vu none) (ps : IsPart vs (some (-1))) (h : Q ((n : Int) - 1, -1, n) s) :
    wpAny (model prog w) A (Builtin.Slice.sliceApplied (.ref sl) (pure (n : Int))) Q E s := by
  obtain ⟨os, g1, g2, g3⟩ := id hs
  unfold Builtin.Slice.sliceApplied
  unfold Builtin.Slice.sliceFields
  have third : wpAny (model prog w) A (field (.ref sl) 2) (fun v s' => v = vs ∧ s' = s) E s := wpAny_field g1 g3 (x := vs) rfl ⟨rfl, rfl⟩
  refine wpAny_bind (wpAny_bind (wpAny_field g1 g3 (x := vl) rfl ?_))
  refine wpAny_bind (wpAny_field g1 g3 (x := vu) rfl ?_)
  refine wpAny_bind (wpAny_mono third (fun v s' hv => ?_) fun _ _ x => x)
  obtain ⟨e1, e2⟩ := hv
  subst e1 e2
  refine wpAny_pure (wpAny_bind (HT.slicePart_ ps ?_))
  show wpAny _ _ (if ((-1 : Int) == 0) = true then _ else _) _ _ _
  rw [if_neg (by decide)]
  refine wpAny_bind (HT.slicePart_ pl ?_)
  refine wpAny_bind (HT.slicePart_ pu ?_)
  refine wpAny_bind (wpAny_pure ?_)
  have e : Builtin.Slice.sliceAdjust none none (-1) (n : Int) = ((n : Int) - 1, -1) := rfl
  rw [show (Option.getD (some (-1 : Int)) 1) = -1 from rfl, e]
  have e2 : Builtin.Slice.slicePlaces ((n : Int) - 1) (-1) (-1) = n := by
    unfold Builtin.Slice.slicePlaces
    rw [if_neg (by decide), show (-(-1) : Int) = 1 from rfl, Int.ediv_one]
    split <;> omega
  show wpAny _ _ (pure ((n : Int) - 1, (-1 : Int), Builtin.Slice.slicePlaces ((n : Int) - 1) (-1) (-1))) _ _ _
  rw [e2]
  exact wpAny_pure h
theorem getItem_tuple_rev {prog : Program} {w : World} {A : Around} {E : Value → Shared → Prop} {s : Shared} {t sl : Addr} {items : Array Value} {vl vu vs : Value} {Q : Value → Shared → Prop} (ht : IsTup s.heap t items)
    (hs : s.heap.IsSliceOf sl vl vu vs) (pl : IsPart vl none) (pu : IsPart vu none) (ps : IsPart vs (some (-1)))
    (h : Q (.ref s.heap.objs.size) { s with heap := s.heap.push { cls := .type "tuple", data := .seq items.toList.reverse.toArray } }) (hsz : items.size ≤ sizeLine) : wpAny (model prog w) A (getItem (.ref t) (.ref sl)) Q E s := by
  have hsz' : sizeOk (.seq items.toList.reverse.toArray) := by
    show items.toList.reverse.toArray.size ≤ sizeLine
    simpa using hsz
  have hT : s.TypeIs (.ref sl) "slice" := by
    obtain ⟨o, h1, h2, _⟩ := hs
    exact ⟨o, h1, h2⟩
  have code : wpAny (model prog w) A.in1 (Builtin.«tuple.__getitem__» ⟨[.ref t, .ref sl], []⟩) (fun r s' => ∃ v, r = .done (.ret v) ∧ Q v s') E s := by
    show wpAny _ _ (Builtin.Tuple.tupleItemsOf (.ref t) >>= _) _ _ s
    refine wpAny_bind (PyProof.Rows.tupleItemsOf_ ht (wpAny_bind (wpAny_typeOf hT ?_)))
    rw [if_pos (by decide)]
    refine wpAny_bind (applied_rev hs pl pu ps ?_)
    show wpAny _ _ (if ((((items.size : Int) - 1) == 0 && (-1 : Int) == 1 && items.size == items.size) = true) then _ else _) _ _ s
    rw [if_neg (by rw [show ((-1 : Int) == 1) = false from rfl, Bool.and_false, Bool.false_and]; decide), revPick]
    first
      | exact wpAny_bind (m := Builtin.Tuple.tupleExact _) (wpAny_newObj_type (wpAny_pure ⟨_, rfl, h⟩) hsz')
      | exact wpAny_bind (m := Builtin.Tuple.tupleExact _) (wpAny_newObj_type (wpAny_bind (wpAny_pure (wpAny_pure ⟨_, rfl, h⟩))) hsz')
      | exact wpAny_bind (wpAny_bind (m := Builtin.Tuple.tupleExact _) (wpAny_newObj_type (wpAny_pure (wpAny_pure ⟨_, rfl, h⟩)) hsz'))
      | exact wpAny_bind (wpAny_bind (m := Builtin.Tuple.tupleExact _) (wpAny_newObj_type (wpAny_pure ⟨_, rfl, h⟩) hsz'))
  have called := wpAny_call_entry PyProof.Rows.slot_tuple_getitem ht.typeIs PyProof.Rows.entry_tuple_getitem code (PyProof.Rows.args_tuple_getitem _ _)
  unfold getItem
  try with_reducible refine wpAny_holding ?_
  first | refine wpAny_bind (wpAny_pure ?_) | skip
  refine wpAny_bind (PySem.wpAny_sequenceKey ht.typeIs (by decide) ?_)
  exact wpAny_bind (wpAny_callSpecial?_slot (name := Str.ofString "__getitem__") ht.typeIs PyProof.Rows.slot_tuple_getitem (wpAny_mono called (fun v s' q => wpAny_pure q) fun _ _ x => x))
end Pu
set_option maxRecDepth 100000
/-! x[::-1], displays, argument lists, calls of built-ins and of the text's own defs. -/
namespace Pu
open PySem PySem.Spec PyProof.Rows L2

section
variable {X : Cx} {e a b c : Expr} {f g h : F1} {pos : Pos} {es : List Expr}
theorem x_rev {k : Nat} {p1 p2 p3 : Pos} (ha : PB X a f) : PX X (.Subscript a (.Slice none none (some (.UnaryOp .USub (.Constant (.int 1) k p1) p2)) p3) pos) (f1 revD f) := by
  refine ⟨fun pins s σ H Q I hw => ?_⟩
  obtain ⟨H0, F0, F, ρ, d, S, hd, q⟩ := hw
  obtain ⟨x, hx, hop⟩ := f1_some hd
  refine Subscript_ (thn (ha.run pins s σ H (fun v H' => ∃ F', Ext H F H' F' ∧ RepB X.K H' F' v x) I ⟨H0, F0, F, ρ, x, S, hx, fun H' F' v e r => ⟨F', e, r⟩⟩) fun v s1 hv => ?_)
  obtain ⟨y, H1, I1, ry, F1, e1, r1⟩ := hv
  have minus : PO X (some (.UnaryOp .USub (.Constant (.int 1) k p1) p2)) (tPart (tUn (rU fun i => .int (-i)) (tC (.int 1)))) := po_some (pe_un un_neg pe_int)
  refine wpAny_Slice (thn (po_none.run pins s1 σ H1 (fun o H' => o = none ∧ H' = H1) I1 ⟨rfl, rfl⟩) fun vl s2 h2 => ?_)
  obtain ⟨o2, H2, I2, pl, rfl, rfl⟩ := h2
  refine thn (po_none.run pins s2 σ H2 (fun o H' => o = none ∧ H' = H2) I2 ⟨rfl, rfl⟩) fun vu s3 h3 => ?_
  obtain ⟨o3, H3, I3, pu, rfl, rfl⟩ := h3
  refine thn (minus.run pins s3 σ H3 (fun o H' => o = some (-1) ∧ H' = H3) I3 ⟨1, rfl, -1, rfl, rfl, rfl⟩) fun vs s4 h4 => ?_
  obtain ⟨o4, H4, I4, ps, rfl, rfl⟩ := h4
  have J : Inv X pins σ H4 { s4 with heap := s4.heap.push { cls := .type "slice", data := .fields #[vl, vu, vs] } } := I4.kept (t' := s4.toks) fun b ob q => Heap.get?_push_of_some _ q
  have sl := Heap.IsSliceOf.new s4.heap vl vu vs
  have q' : ∀ H' F' v, Ext H4 F1 H' F' → Rep X.K F' v d → Q v H' := fun H' F' v e r => q H' F' v (e1.trans e) r
  unfold revD at hop
  split at hop
  · cases hop
    obtain ⟨l, xs, rfl, hs, r⟩ := r1.list e1.sub
    obtain rfl : v = Value.ref l := ry
    obtain ⟨its, rv, ht, hz⟩ := J.list hs
    have hlen := rv.length
    show wpAny (model X.prog X.w) X.A (subscriptTail _ _ (.ref l) (.ref s4.heap.objs.size)) _ X.xe { s4 with heap := s4.heap.push { cls := .type "slice", data := .fields #[vl, vu, vs] } }
    refine tail_any (ops := [.ref l, .ref s4.heap.objs.size]) ht.isList.typeIs PySem.slot_list_getitem.lookup ?_ (by with_unfolding_all rfl)
    refine wpAny_getItem_list_slice ht.isList sl pl pu ps (by decide) ?_ (by rw [List.size_toArray]; omega)
    rw [PySem.W.krv_pick]
    have new := J.laid (t' := s4.toks) (o := .lst xs.reverse) (fun b ob q => Heap.get?_push_of_some { cls := .type "list", data := .seq its.toArray.toList.reverse.toArray } q) (Nat.le_refl _) ⟨by rw [List.length_reverse]; exact hz, _, 0, rv.reverse, Heap.get?_push_size _ rfl⟩
    exact ⟨.ref _, _, new, rfl, new_lst e1.sub q' r.reverse _ (J.hok.fresh (Nat.le_refl _))⟩
  · cases hop
    obtain ⟨l, xs, rfl, _, hs, r⟩ := r1.tuple e1.sub
    obtain rfl : v = Value.ref l := ry
    obtain ⟨its, rv, ht, hz⟩ := J.tuple hs
    have hlen := rv.length
    show wpAny (model X.prog X.w) X.A (subscriptTail _ _ (.ref l) (.ref s4.heap.objs.size)) _ X.xe { s4 with heap := s4.heap.push { cls := .type "slice", data := .fields #[vl, vu, vs] } }
    refine tail_any (ops := [.ref l, .ref s4.heap.objs.size]) ht.typeIs PyProof.Rows.slot_tuple_getitem.lookup ?_ (by with_unfolding_all rfl)
    refine getItem_tuple_rev ht sl pl pu ps ?_ (by rw [List.size_toArray]; omega)
    have new := J.laid (t' := s4.toks) (o := .tup xs.reverse) (fun b ob q => Heap.get?_push_of_some { cls := .type "tuple", data := .seq its.toArray.toList.reverse.toArray } q) (Nat.le_refl _) ⟨by rw [List.length_reverse]; exact hz, _, rv.reverse, IsTup.new _ _⟩
    exact ⟨.ref _, _, new, rfl, new_tup e1.sub q' r.reverse _ (J.hok.fresh (Nat.le_refl _))⟩
  · cases hop

/-! ### argument lists, displays -/
variable {fs : List F1} {ms : List Bool}
theorem ar_nil : PAr X [] [] (fArgs []) := paImp pa_nil fun σ H Q ⟨H0, F0, F, ρ, ds, S, hd, q⟩ => by
  cases hd
  exact q H F [] (Ext.refl S.sub) .nil
theorem ar_val (he : PX X e f) (hr : PAr X es ms (fArgs fs)) (hs : starEach (e :: es) X.env = (false, eval e X.env) :: starEach es X.env := by rfl) : PAr X (e :: es) (false :: ms) (fArgs (f :: fs)) := paImp (pa_cons he hr hs) fun σ H Q ⟨H0, F0, F, ρ, ds, S, hd, q⟩ => by
  obtain ⟨x, hx, h2⟩ := Option.bind_eq_some_iff.mp hd
  obtain ⟨xs, hxs, h3⟩ := Option.bind_eq_some_iff.mp h2
  cases h3
  exact ⟨H0, F0, F, ρ, x, S, hx, fun H1 F1 v e1 r1 => ⟨H0, F0, F1, ρ, xs, S.ext e1, hxs, fun H2 F2 vs e2 r2 => q H2 F2 _ (e1.trans e2) (.val (r1.mono e2.f) r2)⟩⟩
theorem ar_bor (he : PB X e f) (hr : PAr X es ms (fArgs fs)) (hs : starEach (e :: es) X.env = (false, eval e X.env) :: starEach es X.env := by rfl) : PAr X (e :: es) (true :: ms) (fArgs (f :: fs)) := paImp (pa_cons he hr hs) fun σ H Q ⟨H0, F0, F, ρ, ds, S, hd, q⟩ => by
  obtain ⟨x, hx, h2⟩ := Option.bind_eq_some_iff.mp hd
  obtain ⟨xs, hxs, h3⟩ := Option.bind_eq_some_iff.mp h2
  cases h3
  exact ⟨H0, F0, F, ρ, x, S, hx, fun H1 F1 v e1 r1 => ⟨H0, F0, F1, ρ, xs, S.ext e1, hxs, fun H2 F2 vs e2 r2 => q H2 F2 _ (e1.trans e2) (.bor (r1.mono e2.h e2.f) r2)⟩⟩
def allV (ms : List Bool) : Bool := ms.all not
theorem RepsM.all {K : PySem.W.Frag} {H F : Hp} {ms : List Bool} {vs : List V} {ds : List D} (r : RepsM K H F ms vs ds) (h : allV ms = true) : Reps K F vs ds := r.reps fun b hb => by
  have := List.all_eq_true.mp h b hb
  simpa using this
theorem x_tup {k : Nat} (ha : PAr X es ms (fArgs fs)) (hm : allV ms = true := by rfl) (hl : decide (ms.length ≤ 1000) = true := by rfl) : PX X (.Tuple es k pos) (fTup fs) := peImp (pe_tup ha) fun σ H Q ⟨H0, F0, F, ρ, d, S, hd, q⟩ => by
  obtain ⟨ds, hds, rfl⟩ := Option.map_eq_some_iff.mp hd
  refine ⟨H0, F0, F, ρ, ds, S, hds, fun H1 F1 vs e1 r1 => ⟨?_, new_tup e1.sub (fun H' F' v e r => q H' F' v (e1.trans e) r) (r1.all hm)⟩⟩
  rw [r1.length, sizeLine_eq]
  have := of_decide_eq_true hl
  omega
theorem x_lst (ha : PAr X es ms (fArgs fs)) (hm : allV ms = true := by rfl) (hl : decide (ms.length ≤ 1000) = true := by rfl) : PX X (.List es pos) (fLst fs) := peImp (pe_lst ha) fun σ H Q ⟨H0, F0, F, ρ, d, S, hd, q⟩ => by
  obtain ⟨ds, hds, rfl⟩ := Option.map_eq_some_iff.mp hd
  refine ⟨H0, F0, F, ρ, ds, S, hds, fun H1 F1 vs e1 r1 => ⟨?_, new_lst e1.sub (fun H' F' v e r => q H' F' v (e1.trans e) r) (r1.all hm)⟩⟩
  rw [r1.length, sizeLine_eq]
  have := of_decide_eq_true hl
  omega

/-! ### built-ins -/
def SemC (K : PySem.W.Frag) (r : List V → Hp → VK → Prop) (ms : List Bool) (m : Fn) : Prop := ∀ (H F : Hp) (ds : List D) (vs : List V) (d : D) (Q : VK), Same F H → RepsM K H F ms vs ds → m ds = some d →
  (∀ H' F' v, Ext H F H' F' → Rep K F' v d → Q v H') → r vs H Q
theorem call_go {K : PySem.W.Frag} {r : List V → Hp → VK → Prop} {m : Fn} (sem : SemC K r ms m) : ∀ σ H Q, tX K (fCall m fs) σ H Q → tCB r (tAr K ms (fArgs fs)) σ H Q := fun σ H Q ⟨H0, F0, F, ρ, d, S, hd, q⟩ => by
  obtain ⟨ds, hds, hm⟩ := Option.bind_eq_some_iff.mp hd
  exact ⟨H0, F0, F, ρ, ds, S, hds, fun H1 F1 vs e1 r1 => sem H1 F1 ds vs d Q e1.sub r1 hm fun H' F' v e r => q H' F' v (e1.trans e) r⟩
theorem x_bi {id : String} {x : Str} {p : Pos} {r : List V → Hp → VK → Prop} {m : Fn} (hc : CallR X (.builtin id) r) (sem : SemC X.K r ms m) (hg : Gl X x) (hm : X.mg x = none) (hv : bootBuiltins x = some (.builtin id)) (ha : PAr X (e :: es) ms (fArgs fs))
    (hn : x ≠ "__name__" := by decide) (hdb : (x == ("__debug__" : Str)) = false := by decide) (h1 : starEach (e :: es) X.env = (false, eval e X.env) :: starEach es X.env := by rfl) (hpl : (backTo pos (starEach es X.env)).any (·.1) = false := by rfl) :
    PX X (.Call (.Name x p) (e :: es) [] pos) (fCall m fs) := peImp (pe_callB hc hg hm hv ha hn hdb h1 hpl) (call_go sem)
theorem x_ty {T : String} {x : Str} {p : Pos} {r : List V → Hp → VK → Prop} {m : Fn} (hc : CallR X (.type T) r) (sem : SemC X.K r ms m) (hg : Gl X x) (hm : X.mg x = none) (hv : bootBuiltins x = some (.type T)) (ha : PAr X (e :: es) ms (fArgs fs))
    (hn : x ≠ "__name__" := by decide) (hdb : (x == ("__debug__" : Str)) = false := by decide) (h1 : starEach (e :: es) X.env = (false, eval e X.env) :: starEach es X.env := by rfl) (hpl : (backTo pos (starEach es X.env)).any (·.1) = false := by rfl) :
    PX X (.Call (.Name x p) (e :: es) [] pos) (fCall m fs) := peImp (pe_callTy hc hg hm hv ha hn hdb h1 hpl) (call_go sem)
end
end Pu
set_option maxRecDepth 100000
/-! What the built-ins answer. -/
namespace Pu
open PySem PySem.Spec PyProof.Rows L2

section
variable {K : PySem.W.Frag} {H F : Hp}
theorem repsM1 {vs : List V} {d : D} (h : RepsM K H F [true] vs [d]) : ∃ v, vs = [v] ∧ RepB K H F v d := by
  cases h with
  | bor h r => cases r; exact ⟨_, rfl, h⟩
theorem repsM2 {vs : List V} {d e : D} (h : RepsM K H F [true, true] vs [d, e]) : ∃ v w, vs = [v, w] ∧ RepB K H F v d ∧ RepB K H F w e := by
  cases h with
  | bor h r =>
    obtain ⟨w, rfl, h2⟩ := repsM1 r
    exact ⟨_, w, rfl, h, h2⟩
theorem m1_some {op : D → Option D} {ds : List D} {d : D} (h : m1 op ds = some d) : ∃ x, ds = [x] ∧ op x = some d := by
  unfold m1 at h
  split at h
  · exact ⟨_, rfl, h⟩
  · cases h
theorem m2_some {op : D → D → Option D} {ds : List D} {d : D} (h : m2 op ds = some d) : ∃ x y, ds = [x, y] ∧ op x y = some d := by
  unfold m2 at h
  split at h
  · exact ⟨_, _, rfl, h⟩
  · cases h
/-- one argument, lent -/
theorem sem1 {r : List V → Hp → VK → Prop} {op : D → Option D} (h : ∀ (H F : Hp) (x : D) (v : V) (d : D) (Q : VK), Same F H → RepB K H F v x → op x = some d → (∀ H' F' v, Ext H F H' F' → Rep K F' v d → Q v H') → r [v] H Q) : SemC K r [true] (m1 op) := fun H F ds vs d Q s rs hm q => by
  obtain ⟨x, rfl, ho⟩ := m1_some hm
  obtain ⟨v, rfl, r⟩ := repsM1 rs
  exact h H F x v d Q s r ho q
theorem sem2 {r : List V → Hp → VK → Prop} {op : D → D → Option D} (h : ∀ (H F : Hp) (x y : D) (v w : V) (d : D) (Q : VK), Same F H → RepB K H F v x → RepB K H F w y → op x y = some d → (∀ H' F' v, Ext H F H' F' → Rep K F' v d → Q v H') → r [v, w] H Q) : SemC K r [true, true] (m2 op) := fun H F ds vs d Q s rs hm q => by
  obtain ⟨x, y, rfl, ho⟩ := m2_some hm
  obtain ⟨v, w, rfl, r1, r2⟩ := repsM2 rs
  exact h H F x y v w d Q s r1 r2 ho q

def rLenA (K : PySem.W.Frag) : List V → Hp → VK → Prop := fun xs H Q => (∃ p ys, xs = [.ref p] ∧ (SqL K H p ys ∨ SqT K H p ys) ∧ Q (.int ys.length) H) ∨ (∃ z, xs = [.str z] ∧ z.length ≤ sizeLine ∧ Q (.int z.length) H)
theorem callOr {X : Cx} {f : Value} {r r' : List V → Hp → VK → Prop} (h : CallR X f r) (h' : CallR X f r') : CallR X f (fun xs H Q => r xs H Q ∨ r' xs H Q) := by
  intro pins s σ H xs us Q I rx q
  rcases q with q | q
  · exact h pins s σ H xs us Q I rx q
  · exact h' pins s σ H xs us Q I rx q
theorem cr_len {X : Cx} : CallR X (.builtin "len") (rLenA X.K) := callOr call_len_seq call_len_str
theorem sem_len : SemC K (rLenA K) [true] (m1 lenD) := sem1 fun H F x v d Q s r ho q => by
  unfold lenD at ho
  split at ho
  · cases ho
    obtain ⟨a, xs, rfl, hs, rr⟩ := r.list s
    refine .inl ⟨a, xs, rfl, .inl hs, ?_⟩
    rw [rr.length]; exact same_q s q (.int _)
  · cases ho
    obtain ⟨a, xs, rfl, _, hs, rr⟩ := r.tuple s
    refine .inl ⟨a, xs, rfl, .inr hs, ?_⟩
    rw [rr.length]; exact same_q s q (.int _)
  · split at ho
    · rename_i hc
      cases ho
      refine .inr ⟨_, by rw [r.str.1], of_decide_eq_true hc, same_q s q (.int _)⟩
    · cases ho
  · cases ho
def rTupA (K : PySem.W.Frag) : List V → Hp → VK → Prop := fun xs H Q => ∃ p ys, xs = [.ref p] ∧ ((SqL K H p ys ∧ ∀ l, H l = none → Q (.ref l) (upd H l (.tup ys))) ∨ (SqT K H p ys ∧ Q (.ref p) H))
theorem sem_tuple : SemC K (rTupA K) [true] (m1 tupD) := sem1 fun H F x v d Q s r ho q => by
  unfold tupD at ho
  split at ho
  · cases ho
    obtain ⟨a, xs, rfl, hs, rr⟩ := r.list s
    exact ⟨a, xs, rfl, .inl ⟨hs, new_tup s q rr⟩⟩
  · cases ho
    obtain ⟨a, xs, rfl, hf, hs, rr⟩ := r.tuple s
    exact ⟨a, xs, rfl, .inr ⟨hs, same_q s q (.tup hf rr)⟩⟩
  · cases ho
def rLstA (K : PySem.W.Frag) : List V → Hp → VK → Prop := fun xs H Q => ∃ p ys, xs = [.ref p] ∧ (SqL K H p ys ∨ SqT K H p ys) ∧ ∀ l, H l = none → Q (.ref l) (upd H l (.lst ys))
theorem sem_list : SemC K (rLstA K) [true] (m1 lstD) := sem1 fun H F x v d Q s r ho q => by
  unfold lstD at ho
  split at ho
  · cases ho
    obtain ⟨a, xs, rfl, hs, rr⟩ := r.list s
    exact ⟨a, xs, rfl, .inl hs, new_lst s q rr⟩
  · cases ho
    obtain ⟨a, xs, rfl, hf, hs, rr⟩ := r.tuple s
    exact ⟨a, xs, rfl, .inr hs, new_lst s q rr⟩
  · cases ho
theorem sem_sum : SemC K (rSum K) [true] (m1 sumD) := sem1 fun H F x v d Q s r ho q => by
  unfold sumD at ho
  split at ho
  · obtain ⟨ns, h1, rfl⟩ := Option.map_eq_some_iff.mp ho
    obtain ⟨a, xs, rfl, hs, rr⟩ := r.list s
    have e := rr.intsL h1
    subst e
    exact ⟨a, ns, rfl, hs, same_q s q (.int _)⟩
  · cases ho
theorem maxI_spec : ∀ {ns : List Int} {m : Int}, maxI ns = some m → m ∈ ns ∧ ∀ y ∈ ns, y ≤ m
  | [], _, h => by cases h
  | [a], m, h => by
    cases h
    exact ⟨List.mem_singleton.mpr rfl, fun y hy => by rw [List.mem_singleton.mp hy]; exact Int.le_refl _⟩
  | a :: b :: r, m, h => by
    obtain ⟨k, h1, h2⟩ := Option.map_eq_some_iff.mp (show (maxI (b :: r)).map _ = some m from h)
    obtain ⟨i1, i2⟩ := maxI_spec h1
    subst h2
    refine ⟨?_, fun y hy => ?_⟩
    · rcases Int.le_total a k with q | q
      · rw [show max a k = k by omega]; exact List.mem_cons_of_mem _ i1
      · rw [show max a k = a by omega]; exact List.mem_cons_self
    · rcases List.mem_cons.mp hy with rfl | hy
      · omega
      · have := i2 y hy; omega
theorem minI_spec : ∀ {ns : List Int} {m : Int}, minI ns = some m → m ∈ ns ∧ ∀ y ∈ ns, m ≤ y
  | [], _, h => by cases h
  | [a], m, h => by
    cases h
    exact ⟨List.mem_singleton.mpr rfl, fun y hy => by rw [List.mem_singleton.mp hy]; exact Int.le_refl _⟩
  | a :: b :: r, m, h => by
    obtain ⟨k, h1, h2⟩ := Option.map_eq_some_iff.mp (show (minI (b :: r)).map _ = some m from h)
    obtain ⟨i1, i2⟩ := minI_spec h1
    subst h2
    refine ⟨?_, fun y hy => ?_⟩
    · rcases Int.le_total a k with q | q
      · rw [show min a k = a by omega]; exact List.mem_cons_self
      · rw [show min a k = k by omega]; exact List.mem_cons_of_mem _ i1
    · rcases List.mem_cons.mp hy with rfl | hy
      · omega
      · have := i2 y hy; omega
theorem sem_max : SemC K (rMax K) [true] (m1 maxD) := sem1 fun H F x v d Q s r ho q => by
  unfold maxD at ho
  split at ho
  · obtain ⟨m, h1, rfl⟩ := Option.map_eq_some_iff.mp ho
    obtain ⟨ns, h2, h3⟩ := Option.bind_eq_some_iff.mp h1
    obtain ⟨a, xs, rfl, hs, rr⟩ := r.list s
    have e := rr.intsL h2
    subst e
    obtain ⟨i1, i2⟩ := maxI_spec h3
    refine ⟨a, ns, rfl, hs, List.length_pos_of_mem i1, fun m' j1 j2 => ?_⟩
    have e1 := i2 m' j1
    have e2 := j2 m i1
    rw [show m' = m by omega]
    exact same_q s q (.int _)
  · cases ho
theorem sem_min : SemC K (rMin K) [true] (m1 minD) := sem1 fun H F x v d Q s r ho q => by
  unfold minD at ho
  split at ho
  · obtain ⟨m, h1, rfl⟩ := Option.map_eq_some_iff.mp ho
    obtain ⟨ns, h2, h3⟩ := Option.bind_eq_some_iff.mp h1
    obtain ⟨a, xs, rfl, hs, rr⟩ := r.list s
    have e := rr.intsL h2
    subst e
    obtain ⟨i1, i2⟩ := minI_spec h3
    refine ⟨a, ns, rfl, hs, List.length_pos_of_mem i1, fun m' j1 j2 => ?_⟩
    have e1 := i2 m' j1
    have e2 := j2 m i1
    rw [show m' = m by omega]
    exact same_q s q (.int _)
  · cases ho
def rMax2 : List V → Hp → VK → Prop := fun xs H Q => ∃ i j, xs = [.int i, .int j] ∧ Q (.int (if j > i then j else i)) H
def rMin2 : List V → Hp → VK → Prop := fun xs H Q => ∃ i j, xs = [.int i, .int j] ∧ Q (.int (if j < i then j else i)) H
theorem sem_max2 : SemC K rMax2 [true, true] (m2 max2D) := sem2 fun H F x y v w d Q s r1 r2 ho q => by
  unfold max2D at ho
  split at ho
  · cases ho
    refine ⟨_, _, by rw [r1.int, r2.int], ?_⟩
    rename_i i j
    rw [show (if j > i then j else i) = max i j by split <;> omega]
    exact same_q s q (.int _)
  · cases ho
theorem sem_min2 : SemC K rMin2 [true, true] (m2 min2D) := sem2 fun H F x y v w d Q s r1 r2 ho q => by
  unfold min2D at ho
  split at ho
  · cases ho
    refine ⟨_, _, by rw [r1.int, r2.int], ?_⟩
    rename_i i j
    rw [show (if j < i then j else i) = min i j by split <;> omega]
    exact same_q s q (.int _)
  · cases ho
theorem sem_all : SemC K (rAll K) [true] (m1 allD) := sem1 fun H F x v d Q s r ho q => by
  unfold allD at ho
  split at ho
  · obtain ⟨ns, h1, rfl⟩ := Option.map_eq_some_iff.mp ho
    obtain ⟨a, xs, rfl, hs, rr⟩ := r.list s
    have e := rr.boolsL h1
    subst e
    exact ⟨a, ns, rfl, hs, same_q s q (.bl _)⟩
  · cases ho
theorem sem_any : SemC K (rAny K) [true] (m1 anyD) := sem1 fun H F x v d Q s r ho q => by
  unfold anyD at ho
  split at ho
  · obtain ⟨ns, h1, rfl⟩ := Option.map_eq_some_iff.mp ho
    obtain ⟨a, xs, rfl, hs, rr⟩ := r.list s
    have e := rr.boolsL h1
    subst e
    exact ⟨a, ns, rfl, hs, same_q s q (.bl _)⟩
  · cases ho
def rInt1 : List V → Hp → VK → Prop := fun xs H Q => (∃ i, xs = [.int i] ∧ Q (.int i) H) ∨ ∃ k, xs = [.bl k] ∧ Q (.int (if k then 1 else 0)) H
def rBool1 : List V → Hp → VK → Prop := fun xs H Q => (∃ i, xs = [.int i] ∧ Q (.bl (i != 0)) H) ∨ ∃ k, xs = [.bl k] ∧ Q (.bl k) H
theorem sem_intc : SemC K rInt1 [true] (m1 intD) := sem1 fun H F x v d Q s r ho q => by
  unfold intD at ho
  split at ho
  · cases ho; exact .inl ⟨_, by rw [r.int], same_q s q (.int _)⟩
  · cases ho; exact .inr ⟨_, by rw [r.bool], same_q s q (.int _)⟩
  · cases ho
theorem sem_boolc : SemC K rBool1 [true] (m1 boolD) := sem1 fun H F x v d Q s r ho q => by
  unfold boolD at ho
  split at ho
  · cases ho; exact .inl ⟨_, by rw [r.int], same_q s q (.bl _)⟩
  · cases ho; exact .inr ⟨_, by rw [r.bool], same_q s q (.bl _)⟩
  · cases ho

/-! ### sorted, ints -/
def insI (x : Int) : List Int → List Int
  | [] => [x]
  | y :: r => if x ≤ y then x :: y :: r else y :: insI x r
def sortI : List Int → List Int
  | [] => []
  | x :: r => insI x (sortI r)
theorem insI_perm (x : Int) : ∀ l : List Int, (insI x l).Perm (x :: l)
  | [] => .refl _
  | y :: r => by
    unfold insI
    split
    · exact .refl _
    · exact ((insI_perm x r).cons y).trans (.swap x y r)
theorem sortI_perm : ∀ l : List Int, (sortI l).Perm l
  | [] => .refl _
  | x :: r => (insI_perm x _).trans ((sortI_perm r).cons x)
theorem insI_sorted (x : Int) : ∀ {l : List Int}, l.Pairwise (· ≤ ·) → (insI x l).Pairwise (· ≤ ·)
  | [], _ => by unfold insI; simp
  | y :: r, h => by
    have hc := List.pairwise_cons.mp h
    unfold insI
    split
    · rename_i hx
      refine List.pairwise_cons.mpr ⟨fun z hz => ?_, h⟩
      rcases List.mem_cons.mp hz with rfl | hz
      · exact hx
      · have := hc.1 z hz; omega
    · rename_i hx
      refine List.pairwise_cons.mpr ⟨fun z hz => ?_, insI_sorted x hc.2⟩
      rcases List.mem_cons.mp ((insI_perm x r).mem_iff.mp hz) with rfl | hz
      · omega
      · exact hc.1 z hz
theorem sortI_sorted : ∀ l : List Int, (sortI l).Pairwise (· ≤ ·)
  | [] => .nil
  | x :: r => insI_sorted x (sortI_sorted r)
theorem sorted_one {l l' : List Int} (p : l.Perm l') (h : l.Pairwise (· ≤ ·)) (h' : l'.Pairwise (· ≤ ·)) : l = l' := p.eq_of_pairwise (fun a b _ _ h1 h2 => Int.le_antisymm h1 h2) h h'
def mapInt (l : List Int) : List D := l.map .int
theorem reps_ints {ns : List Int} : Reps K F (ns.map V.int) (ns.map PyData.int) := by
  induction ns with
  | nil => exact .nil
  | cons n r ih => exact .cons (.int n) ih
def sortIntD : D → Option D
  | .list ds => (intsL ds).map fun ns => .list ((sortI ns).map .int)
  | _ => none
theorem sem_sortInt : SemC K (rSortedI K) [true] (m1 sortIntD) := sem1 fun H F x v d Q s r ho q => by
  unfold sortIntD at ho
  split at ho
  · obtain ⟨ns, h1, rfl⟩ := Option.map_eq_some_iff.mp ho
    obtain ⟨a, xs, rfl, hs, rr⟩ := r.list s
    have e := rr.intsL h1
    subst e
    refine ⟨a, ns, rfl, hs, fun ns' p hp hw hn => ?_⟩
    have e := sorted_one (hp.trans (sortI_perm ns).symm) hw (sortI_sorted ns)
    subst e
    exact new_lst s q reps_ints p hn
  · cases ho
end

section
variable {X : Cx} {e a b : Expr} {f g : F1} {pos p : Pos}
theorem x_len (hg : Gl X "len") (hm : X.mg "len" = none) (ha : PB X a f) (h1 : starEach [a] X.env = (false, eval a X.env) :: starEach [] X.env := by rfl) : PX X (.Call (.Name "len" p) [a] [] pos) (fCall (m1 lenD) [f]) := x_bi cr_len sem_len hg hm PySem.boot_len (ar_bor ha ar_nil h1) (h1 := h1)
theorem x_tupleC (hg : Gl X "tuple") (hm : X.mg "tuple" = none) (ha : PB X a f) (h1 : starEach [a] X.env = (false, eval a X.env) :: starEach [] X.env := by rfl) : PX X (.Call (.Name "tuple" p) [a] [] pos) (fCall (m1 tupD) [f]) := x_ty call_tuple_of sem_tuple hg hm PyProof.Rows.boot_tuple (ar_bor ha ar_nil h1) (h1 := h1)
theorem x_listC (hg : Gl X "list") (hm : X.mg "list" = none) (ha : PB X a f) (h1 : starEach [a] X.env = (false, eval a X.env) :: starEach [] X.env := by rfl) : PX X (.Call (.Name "list" p) [a] [] pos) (fCall (m1 lstD) [f]) := x_ty call_list_of sem_list hg hm PyProof.Rows.boot_list (ar_bor ha ar_nil h1) (h1 := h1)
theorem x_sum (hc : X.calm = true) (hg : Gl X "sum") (hm : X.mg "sum" = none) (ha : PB X a f) (h1 : starEach [a] X.env = (false, eval a X.env) :: starEach [] X.env := by rfl) : PX X (.Call (.Name "sum" p) [a] [] pos) (fCall (m1 sumD) [f]) := x_bi (cr_sum hc) sem_sum hg hm (by decide +kernel) (ar_bor ha ar_nil h1) (h1 := h1)
theorem x_max (hc : X.calm = true) (hg : Gl X "max") (hm : X.mg "max" = none) (ha : PB X a f) (h1 : starEach [a] X.env = (false, eval a X.env) :: starEach [] X.env := by rfl) : PX X (.Call (.Name "max" p) [a] [] pos) (fCall (m1 maxD) [f]) := x_bi (cr_max hc) sem_max hg hm (by decide +kernel) (ar_bor ha ar_nil h1) (h1 := h1)
theorem x_min (hc : X.calm = true) (hg : Gl X "min") (hm : X.mg "min" = none) (ha : PB X a f) (h1 : starEach [a] X.env = (false, eval a X.env) :: starEach [] X.env := by rfl) : PX X (.Call (.Name "min" p) [a] [] pos) (fCall (m1 minD) [f]) := x_bi (cr_min hc) sem_min hg hm (by decide +kernel) (ar_bor ha ar_nil h1) (h1 := h1)
theorem x_all (hc : X.calm = true) (hg : Gl X "all") (hm : X.mg "all" = none) (ha : PB X a f) (h1 : starEach [a] X.env = (false, eval a X.env) :: starEach [] X.env := by rfl) : PX X (.Call (.Name "all" p) [a] [] pos) (fCall (m1 allD) [f]) := x_bi (cr_all hc) sem_all hg hm (by decide +kernel) (ar_bor ha ar_nil h1) (h1 := h1)
theorem x_any (hc : X.calm = true) (hg : Gl X "any") (hm : X.mg "any" = none) (ha : PB X a f) (h1 : starEach [a] X.env = (false, eval a X.env) :: starEach [] X.env := by rfl) : PX X (.Call (.Name "any" p) [a] [] pos) (fCall (m1 anyD) [f]) := x_bi (cr_any hc) sem_any hg hm (by decide +kernel) (ar_bor ha ar_nil h1) (h1 := h1)
theorem x_intC (hg : Gl X "int") (hm : X.mg "int" = none) (ha : PB X a f) (h1 : starEach [a] X.env = (false, eval a X.env) :: starEach [] X.env := by rfl) : PX X (.Call (.Name "int" p) [a] [] pos) (fCall (m1 intD) [f]) := x_ty call_int1 sem_intc hg hm (by decide +kernel) (ar_bor ha ar_nil h1) (h1 := h1)
theorem x_boolC (hg : Gl X "bool") (hm : X.mg "bool" = none) (ha : PB X a f) (h1 : starEach [a] X.env = (false, eval a X.env) :: starEach [] X.env := by rfl) : PX X (.Call (.Name "bool" p) [a] [] pos) (fCall (m1 boolD) [f]) := x_ty call_bool1 sem_boolc hg hm (by decide +kernel) (ar_bor ha ar_nil h1) (h1 := h1)
theorem x_sortInt (hg : Gl X "sorted") (hm : X.mg "sorted" = none) (ha : PB X a f) (h1 : starEach [a] X.env = (false, eval a X.env) :: starEach [] X.env := by rfl) : PX X (.Call (.Name "sorted" p) [a] [] pos) (fCall (m1 sortIntD) [f]) := x_bi cr_sortedI sem_sortInt hg hm (by decide +kernel) (ar_bor ha ar_nil h1) (h1 := h1)
theorem x_max2 (hc : X.calm = true) (hg : Gl X "max") (hm : X.mg "max" = none) (ha : PB X a f) (hb : PB X b g) (h1 : starEach [a, b] X.env = (false, eval a X.env) :: starEach [b] X.env := by rfl) (h2 : starEach [b] X.env = (false, eval b X.env) :: starEach [] X.env := by rfl)
    (hpl : (backTo pos (starEach [b] X.env)).any (·.1) = false := by rfl) : PX X (.Call (.Name "max" p) [a, b] [] pos) (fCall (m2 max2D) [f, g]) := x_bi (call_max2 hc) sem_max2 hg hm (by decide +kernel) (ar_bor ha (ar_bor hb ar_nil h2) h1) (h1 := h1) (hpl := hpl)
theorem x_min2 (hc : X.calm = true) (hg : Gl X "min") (hm : X.mg "min" = none) (ha : PB X a f) (hb : PB X b g) (h1 : starEach [a, b] X.env = (false, eval a X.env) :: starEach [b] X.env := by rfl) (h2 : starEach [b] X.env = (false, eval b X.env) :: starEach [] X.env := by rfl)
    (hpl : (backTo pos (starEach [b] X.env)).any (·.1) = false := by rfl) : PX X (.Call (.Name "min" p) [a, b] [] pos) (fCall (m2 min2D) [f, g]) := x_bi (call_min2 hc) sem_min2 hg hm (by decide +kernel) (ar_bor ha (ar_bor hb ar_nil h2) h1) (h1 := h1) (hpl := hpl)
end
end Pu
set_option maxRecDepth 100000
/-! isinstance, calls of own defs, what is walked, statements, loops. -/
namespace Pu
open PySem PySem.Spec PyProof.Rows L2

/-! ### isinstance -/
def tyName : D → String
  | .none => "NoneType"
  | .bool _ => "bool"
  | .int _ => "int"
  | .str _ => "str"
  | .list _ => "list"
  | .tuple _ => "tuple"
  | .dict _ => "dict"
theorem RepB.tyX {K : PySem.W.Frag} {H F : Hp} {v : V} {d : D} (r : RepB K H F v d) (s : Same F H) (n : ∀ kvs, d ≠ .dict kvs) : TyX K H v (.type (tyName d)) := by
  cases d with
  | none => rw [r.none]; exact .base .non
  | bool b => rw [r.bool]; exact .base (.bl b)
  | int i => rw [r.int]; exact .base (.int i)
  | str x => rw [r.str.1]; exact .base (.str x)
  | list ds =>
    obtain ⟨a, xs, rfl, h, _⟩ := r.list s
    rcases h with (h | ⟨o, h⟩) | ⟨o, its, m, h1, h2, _⟩
    · exact .base (.lst h)
    · exact .base (.frz h)
    · exact .kList h1 h2
  | tuple ds =>
    obtain ⟨a, xs, rfl, h, _, _⟩ := r.tuple s
    exact .base (.tup (s _ _ h))
  | dict kvs => exact absurd rfl (n kvs)
theorem isInst_some {t : Ty} {d e : D} (h : isInst t d = some e) : (∀ kvs, d ≠ .dict kvs) ∧ e = .bool (isT t d) := by
  cases d <;> first | (cases h; done) | (cases h; exact ⟨fun _ z => (by cases z), rfl⟩)
def tyStr : Ty → String
  | .int => "int"
  | .bool => "bool"
  | .str => "str"
  | .tuple => "tuple"
  | .list => "list"
  | .seq => "list"
theorem kit_int : ∀ d : D, (∀ kvs, d ≠ .dict kvs) → kitB (tyName d) "int" = some (isT .int d)
  | .none, _ => by
    change kitB "NoneType" "int" = some false
    decide +kernel
  | .bool _, _ => by
    change kitB "bool" "int" = some true
    decide +kernel
  | .int _, _ => by
    change kitB "int" "int" = some true
    decide +kernel
  | .str _, _ => by
    change kitB "str" "int" = some false
    decide +kernel
  | .list _, _ => by
    change kitB "list" "int" = some false
    decide +kernel
  | .tuple _, _ => by
    change kitB "tuple" "int" = some false
    decide +kernel
  | .dict kvs, n => absurd rfl (n kvs)
theorem kit_bool : ∀ d : D, (∀ kvs, d ≠ .dict kvs) → kitB (tyName d) "bool" = some (isT .bool d)
  | .none, _ => by
    change kitB "NoneType" "bool" = some false
    decide +kernel
  | .bool _, _ => by
    change kitB "bool" "bool" = some true
    decide +kernel
  | .int _, _ => by
    change kitB "int" "bool" = some false
    decide +kernel
  | .str _, _ => by
    change kitB "str" "bool" = some false
    decide +kernel
  | .list _, _ => by
    change kitB "list" "bool" = some false
    decide +kernel
  | .tuple _, _ => by
    change kitB "tuple" "bool" = some false
    decide +kernel
  | .dict kvs, n => absurd rfl (n kvs)
theorem kit_str : ∀ d : D, (∀ kvs, d ≠ .dict kvs) → kitB (tyName d) "str" = some (isT .str d)
  | .none, _ => by
    change kitB "NoneType" "str" = some false
    decide +kernel
  | .bool _, _ => by
    change kitB "bool" "str" = some false
    decide +kernel
  | .int _, _ => by
    change kitB "int" "str" = some false
    decide +kernel
  | .str _, _ => by
    change kitB "str" "str" = some true
    decide +kernel
  | .list _, _ => by
    change kitB "list" "str" = some false
    decide +kernel
  | .tuple _, _ => by
    change kitB "tuple" "str" = some false
    decide +kernel
  | .dict kvs, n => absurd rfl (n kvs)
theorem kit_tuple : ∀ d : D, (∀ kvs, d ≠ .dict kvs) → kitB (tyName d) "tuple" = some (isT .tuple d)
  | .none, _ => by
    change kitB "NoneType" "tuple" = some false
    decide +kernel
  | .bool _, _ => by
    change kitB "bool" "tuple" = some false
    decide +kernel
  | .int _, _ => by
    change kitB "int" "tuple" = some false
    decide +kernel
  | .str _, _ => by
    change kitB "str" "tuple" = some false
    decide +kernel
  | .list _, _ => by
    change kitB "list" "tuple" = some false
    decide +kernel
  | .tuple _, _ => by
    change kitB "tuple" "tuple" = some true
    decide +kernel
  | .dict kvs, n => absurd rfl (n kvs)
theorem kit_list : ∀ d : D, (∀ kvs, d ≠ .dict kvs) → kitB (tyName d) "list" = some (isT .list d)
  | .none, _ => by
    change kitB "NoneType" "list" = some false
    decide +kernel
  | .bool _, _ => by
    change kitB "bool" "list" = some false
    decide +kernel
  | .int _, _ => by
    change kitB "int" "list" = some false
    decide +kernel
  | .str _, _ => by
    change kitB "str" "list" = some false
    decide +kernel
  | .list _, _ => by
    change kitB "list" "list" = some true
    decide +kernel
  | .tuple _, _ => by
    change kitB "tuple" "list" = some false
    decide +kernel
  | .dict kvs, n => absurd rfl (n kvs)
section
variable {X : Cx} {e a b : Expr} {f g : F1} {pos p : Pos}
/-- isinstance(x, T): tn the type's name -/
theorem x_isi {t : Ty} {x : Str} {tn : String} {p2 : Pos} (hg : Gl X "isinstance") (hm : X.mg "isinstance" = none) (hg2 : Gl X x) (hm2 : X.mg x = none) (hv2 : bootBuiltins x = some (.type tn)) (hk : ∀ d : D, (∀ kvs, d ≠ .dict kvs) → kitB (tyName d) tn = some (isT t d)) (ha : PB X a f)
    (hn : x ≠ "__name__" := by decide) (hdb : (x == ("__debug__" : Str)) = false := by decide)
    (h1 : starEach [a, .Name x p2] X.env = (false, eval a X.env) :: starEach [.Name x p2] X.env := by rfl) (h2 : starEach [.Name x p2] X.env = (false, eval (.Name x p2) X.env) :: starEach [] X.env := by rfl) (hpl : (backTo pos (starEach [.Name x p2] X.env)).any (·.1) = false := by rfl) :
    PX X (.Call (.Name "isinstance" p) [a, .Name x p2] [] pos) (f1 (isInst t) f) := by
  have ht : PE X (.Name x p2) (tC (.ty tn)) := pe_bltn hg2 hm2 hv2 rfl hn hdb
  refine peImp (pe_callB call_isi hg hm PyProof.Rows.boot_isinstance (pa_cons ha (pa_cons ht pa_nil h2) h1) (by decide) (by decide) h1 hpl) fun σ H Q ⟨H0, F0, F, ρ, d, S, hd, q⟩ => ?_
  obtain ⟨y, hy, ho⟩ := f1_some hd
  obtain ⟨nd, rfl⟩ := isInst_some ho
  refine ⟨H0, F0, F, ρ, y, S, hy, fun H1 F1 v e1 r1 => ?_⟩
  exact ⟨v, .ty tn, _, _, _, rfl, .ty tn, r1.tyX e1.sub nd, kit_ty (hk y nd), q H1 F1 _ e1 (.bl _)⟩
theorem kit_seq (d : D) (n : ∀ kvs, d ≠ .dict kvs) (K : PySem.W.Frag) : PySem.W.kitAny K (.type (tyName d)) [.type "list", .type "tuple"] = some (isT .seq d) := by
  have h1 := kit_ty (K := K) (kit_list d n)
  have h2 := kit_ty (K := K) (kit_tuple d n)
  refine kitAny_cons h1 (fun e1 => kitAny_cons h2 (fun e2 => ?_) fun e2 => ?_) fun e1 => ?_
  · have : isT .seq d = false := by
      cases d <;> first | rfl | (simp [isT] at e1; done) | (simp [isT] at e2; done)
    rw [this]
    rfl
  · cases d <;> first | (simp [isT] at e2; done) | rfl
  · cases d <;> first | (simp [isT] at e1; done) | rfl
/-- isinstance(x, (list, tuple)) -/
theorem x_isiLT {k : Nat} {pl pt p2 : Pos} (hg : Gl X "isinstance") (hm : X.mg "isinstance" = none) (hgl : Gl X "list") (hml : X.mg "list" = none) (hgt : Gl X "tuple") (hmt : X.mg "tuple" = none) (ha : PB X a f)
    (h1 : starEach [a, .Tuple [.Name "list" pl, .Name "tuple" pt] k p2] X.env = (false, eval a X.env) :: starEach [.Tuple [.Name "list" pl, .Name "tuple" pt] k p2] X.env := by rfl)
    (h2 : starEach [.Tuple [.Name "list" pl, .Name "tuple" pt] k p2] X.env = (false, eval (.Tuple [.Name "list" pl, .Name "tuple" pt] k p2) X.env) :: starEach [] X.env := by rfl)
    (hpl : (backTo pos (starEach [.Tuple [.Name "list" pl, .Name "tuple" pt] k p2] X.env)).any (·.1) = false := by rfl)
    (h3 : starEach [.Name "list" pl, .Name "tuple" pt] X.env = (false, eval (.Name "list" pl) X.env) :: starEach [.Name "tuple" pt] X.env := by rfl) (h4 : starEach [.Name "tuple" pt] X.env = (false, eval (.Name "tuple" pt) X.env) :: starEach [] X.env := by rfl) :
    PX X (.Call (.Name "isinstance" p) [a, .Tuple [.Name "list" pl, .Name "tuple" pt] k p2] [] pos) (f1 (isInst .seq) f) := by
  have tl : PE X (.Name "list" pl) (tC (.ty "list")) := pe_bltn hgl hml PyProof.Rows.boot_list rfl
  have tt : PE X (.Name "tuple" pt) (tC (.ty "tuple")) := pe_bltn hgt hmt PyProof.Rows.boot_tuple rfl
  have T : PE X (.Tuple [.Name "list" pl, .Name "tuple" pt] k p2) _ := pe_tup (pa_cons tl (pa_cons tt pa_nil h4) h3)
  refine peImp (pe_callB call_isiT hg hm PyProof.Rows.boot_isinstance (pa_cons ha (pa_cons T pa_nil h2) h1) (by decide) (by decide) h1 hpl) fun σ H Q ⟨H0, F0, F, ρ, d, S, hd, q⟩ => ?_
  obtain ⟨y, hy, ho⟩ := f1_some hd
  obtain ⟨nd, rfl⟩ := isInst_some ho
  refine ⟨H0, F0, F, ρ, y, S, hy, fun H1 F1 v e1 r1 => ⟨by show 2 ≤ sizeLine; rw [sizeLine_eq]; omega, fun t ht => ?_⟩⟩
  have g : Same H1 (upd H1 t (.tup [.ty "list", .ty "tuple"])) := same_upd ht
  have e2 : Ext H F (upd H1 t (.tup [.ty "list", .ty "tuple"])) F1 := e1.trans (Ext.aside e1.sub g)
  exact ⟨v, t, _, _, _, _, rfl, upd_same, .cons (.ty "list") (.cons (.ty "tuple") .nil), (r1.mono g (Same.refl _)).tyX e2.sub nd, kit_seq y nd X.K, q _ F1 _ e2 (.bl _)⟩
end

/-! ### own defs -/
def slots : List Bool → List D → List Slot
  | true :: ms, d :: ds => .bor d :: slots ms ds
  | false :: ms, d :: ds => .val d :: slots ms ds
  | _, _ => []
/-- a def's promise: it answers as the mirror m -/
def spP (K : PySem.W.Frag) (ms : List Bool) (m : Fn) : Sp := fun vs H Q _ => ∃ (F : Hp) (ds : List D) (d : D), Same F H ∧ RepsM K H F ms vs ds ∧ m ds = some d ∧ ∀ H' F' v, Ext H F H' F' → Rep K F' v d → Q v H'
theorem x_call {X : Cx} {k : Nat} {f : Addr} {fd : FuncData} {ps : List Str} {ms : List Bool} {m : Fn} {x : Str} {p pos : Pos} {e : Expr} {es : List Expr} {fs : List F1}
    (G : FnOk X.prog X.w X.K X.mg X.base CX0 k f fd ps (spP X.K ms m)) (hr : Room k X.A) (hg : Gl X x) (hm : X.mg x = some (.ref f)) (hk : PySem.W.keepIn X.K (.ref f) = true) (hb : Binds X.K fd ps []) (ha : PAr X (e :: es) ms (fArgs fs))
    (hdb : (x == ("__debug__" : Str)) = false := by decide) (h1 : starEach (e :: es) X.env = (false, eval e X.env) :: starEach es X.env := by rfl) (hpl : (backTo pos (starEach es X.env)).any (·.1) = false := by rfl) :
    PX X (.Call (.Name x p) (e :: es) [] pos) (fCall m fs) := peImp (pe_call G hr hg hm hk hb .nil pass0 ha hdb h1 hpl) fun σ H Q ⟨H0, F0, F, ρ, d, S, hd, q⟩ => by
  obtain ⟨ds, hds, hm⟩ := Option.bind_eq_some_iff.mp hd
  refine ⟨H0, F0, F, ρ, ds, S, hds, fun H1 F1 vs e1 r1 => ?_⟩
  show spP X.K ms m (vs ++ []) H1 Q E0
  rw [List.append_nil]
  exact ⟨F1, ds, d, e1.sub, r1, hm, fun H' F' v e r => q H' F' v (e1.trans e) r⟩

/-! ### statements -/
/-- what a def hands back: a value; or (fr) a new list or dict that nothing else holds -/
def RtP (K : PySem.W.Frag) (fr : Bool) (H0 H' F' : Hp) (v : V) (d : D) : Prop := match fr with
  | true => ∃ p o, v = .ref p ∧ F' p = none ∧ H0 p = none ∧ H' p = some o ∧ RepO K F' o d
  | false => Rep K F' v d
/-- what is wanted behind a statement's mirror -/
def Nx (K : PySem.W.Frag) (fr : Bool) (H0 F0 F : Hp) (E : Ends) : Out → Prop
  | .nx ρ' => ∀ (σ' : L2.St) (H' F' : Hp), St K H0 F0 H' F' σ' ρ' → Same F F' → E.nx σ' H'
  | .rt d => ∀ (H' F' : Hp) (v : V), Ext H0 F0 H' F' → RtP K fr H0 H' F' v d → E.rt v H'
def tS (K : PySem.W.Frag) (fr : Bool) (g : G) : TS := fun E σ H => ∃ (H0 F0 F : Hp) (ρ : Rho) (o : Out), St K H0 F0 H F σ ρ ∧ g ρ = some o ∧ Nx K fr H0 F0 F E o
abbrev SX (X : Cx) (fr : Bool) (st : Stmt) (g : G) : Prop := PS X st (tS X.K fr g)
abbrev SXs (X : Cx) (fr : Bool) (st : List Stmt) (g : G) : Prop := PSs X st (tS X.K fr g)
theorem psImp {X : Cx} {st : Stmt} {t t' : TS} (h : PS X st t) (w : ∀ D σ H, t' D σ H → t D σ H) : PS X st t' := ⟨fun pins s σ H D I q => h.run pins s σ H D I (w _ _ _ q)⟩
theorem pssImp {X : Cx} {st : List Stmt} {t t' : TS} (h : PSs X st t) (w : ∀ D σ H, t' D σ H → t D σ H) : PSs X st t' := ⟨fun pins s σ H D I q => h.run pins s σ H D I (w _ _ _ q)⟩
theorem St.toExt {K : PySem.W.Frag} {H0 F0 H F : Hp} {σ : L2.St} {ρ : Rho} (S : St K H0 F0 H F σ ρ) : Ext H0 F0 H F := ⟨S.h, S.f, S.sub, S.new⟩
theorem nxMono {K : PySem.W.Frag} {fr : Bool} {H0 F0 F F1 : Hp} {E : Ends} {o : Out} (m : Same F F1) (q : Nx K fr H0 F0 F E o) : Nx K fr H0 F0 F1 E o := by
  cases o with
  | nx ρ => exact fun σ' H' F' S z => q σ' H' F' S (m.trans z)
  | rt d => exact q
section
variable {X : Cx} {fr : Bool} {st : Stmt} {rest sts a b : List Stmt} {g h : G} {e c : Expr} {f : F1} {t : FB} {pos : Pos}
theorem s_nil : SXs X fr [] gSkip := pssImp pss_nil fun D σ H ⟨H0, F0, F, ρ, o, S, hd, q⟩ => by
  cases hd
  exact q σ H F S (Same.refl _)
theorem s_one (p : SX X fr st g) : SXs X fr [st] g := pss_one p
theorem s_cons (p : SX X fr st g) (r : SXs X fr rest h) : SXs X fr (st :: rest) (gSeq g h) := pssImp (pss_cons p r) fun D σ H ⟨H0, F0, F, ρ, o, S, hd, q⟩ => by
  obtain ⟨o1, h1, h2⟩ := Option.bind_eq_some_iff.mp hd
  cases o1 with
  | nx ρ1 =>
    refine ⟨H0, F0, F, ρ, .nx ρ1, S, h1, fun σ1 H1 F1 S1 m1 => ⟨H0, F0, F1, ρ1, o, S1, h2, ?_⟩⟩
    exact nxMono m1 q
  | rt d =>
    cases h2
    exact ⟨H0, F0, F, ρ, .rt d, S, h1, q⟩
theorem s_ret (p : PX X e f) : SX X false (.Return (some e) pos) (gRet f) := psImp (ps_ret p) fun D σ H ⟨H0, F0, F, ρ, o, S, hd, q⟩ => by
  obtain ⟨d, h1, rfl⟩ := Option.map_eq_some_iff.mp hd
  exact ⟨H0, F0, F, ρ, d, S, h1, fun H1 F1 v e1 r1 => q H1 F1 v (S.toExt.trans e1) r1⟩
theorem s_if (p : PTs' X c t) (pa : SXs X fr a g) (pb : SXs X fr b h) : SX X fr (.If c a b pos) (gIf t g h) := psImp (ps_if p pa pb) fun D σ H ⟨H0, F0, F, ρ, o, S, hd, q⟩ => by
  obtain ⟨k, h1, h2⟩ := Option.bind_eq_some_iff.mp hd
  refine ⟨H0, F0, F, ρ, k, S, h1, fun H1 F1 e1 => ?_⟩
  cases k with
  | true => exact iteT ⟨H0, F0, F1, ρ, o, S.ext e1, h2, nxMono e1.f q⟩
  | false => exact iteF ⟨H0, F0, F1, ρ, o, S.ext e1, h2, nxMono e1.f q⟩
/-- x = e -/
theorem s_set {i : Nat} {x : Str} {pos' : Pos} (hN : X.N.Nodup) (hi : X.N[i]? = some x) (hx : Loc X.env.scope x) (he : PX X e f) (hs : swapsWith e (some (.Name x pos')) pos.line X.env = pure false := by rfl)
    (hf : X.fn x = true ∨ X.env.scope.names.lookup x = some .local := by first | exact .inl rfl | exact .inr rfl | assumption) : SX X fr (.Assign [.Name x pos'] e pos) (gSet i f) := psImp (ps_set hN hi hx he hs hf) fun D σ H ⟨H0, F0, F, ρ, o, S, hd, q⟩ => by
  obtain ⟨d, h1, rfl⟩ := Option.map_eq_some_iff.mp hd
  exact ⟨H0, F0, F, ρ, d, S, h1, fun H1 F1 v e1 r1 => q _ H1 F1 ((S.ext e1).set i r1) e1.f⟩

/-! ### targets -/
/-- no slot's own object stands at p -/
def Apart (σ : L2.St) (ρ : Rho) (p : Addr) : Prop := ∀ (j : Nat) (dj : D), ρ[j]? = some (.own dj) → σ[j]? ≠ some (some (.ref p))
theorem Apart.set {σ : L2.St} {ρ : Rho} {p : Addr} (h : Apart σ ρ p) (i : Nat) (x : Option V) (s : Slot) (ns : ∀ d, s ≠ .own d) : Apart (σ.set i x) (ρ.set i s) p := fun j dj h1 h2 => by
  by_cases e : i = j
  · subst e
    have hl : i < ρ.length := by
      have := (List.getElem?_eq_some_iff.mp h1).1
      simpa using this
    rw [List.getElem?_set_self hl] at h1
    cases h1
    exact ns _ rfl
  · rw [List.getElem?_set_ne e] at h1 h2
    exact h j dj h1 h2
theorem Apart.wipe {σ : L2.St} {ρ : Rho} {p : Addr} (h : Apart σ ρ p) : ∀ vs : List Nat, Apart (L2.wipe σ vs) (wipeR ρ vs) p
  | [] => h
  | v :: vs => (Apart.wipe h vs).set v none .no fun _ z => (by cases z)
structure TgOk (K : PySem.W.Frag) (is : List Nat) (g : TG) (tg : TgF) : Prop where
  run : ∀ (H0 F0 F H : Hp) (σ : L2.St) (ρ ρ' : Rho) (v : V) (d : D) (Q : L2.St → Hp → Prop), St K H0 F0 H F σ ρ → Rep K F v d → tg d ρ = some ρ' → (∀ σ', St K H0 F0 H F σ' ρ' → L2.wipe σ' is = L2.wipe σ is → (∀ p, Apart σ ρ p → Apart σ' ρ' p) → Q σ' H) → g v σ H Q
theorem wipe_set {is : List Nat} {i : Nat} {x : Option V} : ∀ {σ : L2.St}, i ∈ is → L2.wipe (σ.set i x) is = L2.wipe σ is := by
  induction is with
  | nil => intro σ h; cases h
  | cons j js ih =>
    intro σ h
    unfold L2.wipe
    by_cases e : i ∈ js
    · rw [ih e]
    · have e' : i = j := by
        rcases List.mem_cons.mp h with h | h
        · exact h
        · exact absurd h e
      subst e'
      clear ih h
      have aux : ∀ {js : List Nat} {σ : L2.St}, i ∉ js → L2.wipe (σ.set i x) js = (L2.wipe σ js).set i x := by
        intro js
        induction js with
        | nil => intro σ _; rfl
        | cons k ks ih =>
          intro σ hk
          have h1 : i ≠ k := fun z => hk (by simp [z])
          have h2 : i ∉ ks := fun z => hk (by simp [z])
          unfold L2.wipe
          rw [ih h2, List.set_comm _ _ h1]
      rw [aux e, List.set_set]
theorem tg_name (K : PySem.W.Frag) {is : List Nat} {i : Nat} (h : i ∈ is) : TgOk K is (gName i) (gN i) := ⟨fun H0 F0 F H σ ρ ρ' v d Q S r hd q => by
  cases hd
  exact q _ (S.set i r) (wipe_set h) fun p a => a.set i _ _ fun _ z => (by cases z)⟩
theorem tg_two (K : PySem.W.Frag) {is : List Nat} {i j : Nat} (h : i ∈ is) (h' : j ∈ is) : TgOk K is (gTup K 2 (gCons (gName i) (gCons (gName j) gNil))) (gT2 i j) := ⟨fun H0 F0 F H σ ρ ρ' v d Q S r hd q => by
  unfold gT2 at hd
  split at hd
  · cases hd
    cases r with
    | tup ht rr =>
      cases rr with
      | cons r1 rr =>
        cases rr with
        | cons r2 rr =>
          cases rr
          refine ⟨_, _, rfl, .of (S.sub _ _ ht), rfl, _, _, rfl, _, _, rfl, rfl, ?_⟩
          exact q _ ((S.set i r1).set j r2) (by rw [wipe_set h', wipe_set h]) fun p a => (a.set i _ _ fun _ z => (by cases z)).set j _ _ fun _ z => (by cases z)
  · cases hd⟩
theorem tg_three (K : PySem.W.Frag) {is : List Nat} {i j k : Nat} (h : i ∈ is) (h' : j ∈ is) (h'' : k ∈ is) : TgOk K is (gTup K 3 (gCons (gName i) (gCons (gName j) (gCons (gName k) gNil)))) (gT3 i j k) := ⟨fun H0 F0 F H σ ρ ρ' v d Q S r hd q => by
  unfold gT3 at hd
  split at hd
  · cases hd
    cases r with
    | tup ht rr =>
      cases rr with
      | cons r1 rr =>
        cases rr with
        | cons r2 rr =>
          cases rr with
          | cons r3 rr =>
            cases rr
            refine ⟨_, _, rfl, .of (S.sub _ _ ht), rfl, _, _, rfl, _, _, rfl, _, _, rfl, rfl, ?_⟩
            exact q _ (((S.set i r1).set j r2).set k r3) (by rw [wipe_set h'', wipe_set h', wipe_set h]) fun p a => ((a.set i _ _ fun _ z => (by cases z)).set j _ _ fun _ z => (by cases z)).set k _ _ fun _ z => (by cases z)
  · cases hd⟩
/-- a, b = e -/
theorem s_asg {tg : Expr} {is : List Nat} {w : TG} {tf : TgF} (he : PX X e f) (hg : PG X tg w) (ht : TgOk X.K is w tf) (hs : swapsWithSole [tg] e pos.line X.env = pure false := by rfl) (hw : swappedStores [tg] e X.env = pure none := by rfl)
    (h1 : (assignEach [tg] X.env).map (·.2) = [assign tg X.env] := by rfl) : SX X fr (.Assign [tg] e pos) (gAsg f tf) := psImp (ps_asg he hg hs hw h1) fun D σ H ⟨H0, F0, F, ρ, o, S, hd, q⟩ => by
  obtain ⟨d, h1, h2⟩ := Option.bind_eq_some_iff.mp hd
  obtain ⟨ρ', h3, rfl⟩ := Option.map_eq_some_iff.mp h2
  exact ⟨H0, F0, F, ρ, d, S, h1, fun H1 F1 v e1 r1 => ht.run H0 F0 F1 H1 σ ρ ρ' v d _ (S.ext e1) r1 h3 fun σ' S' _ _ => q σ' H1 F1 S' e1.f⟩

/-! ### while -/
theorem s_while {n : Nat} {body : List Stmt} (hp : PassesOwn (model X.prog X.w) X.A X.env X.xe) (hc : PTs' X c t) (hb : SXs X fr body g) : SX X fr (.While c body [] pos) (gWhile n t g) := psImp (ps_while hp hc hb) fun D σ H ⟨H0, F0, F, ρ, o, S, hd, q⟩ => by
  refine ⟨fun m σ H => ∃ F' ρ, St X.K H0 F0 H F' σ ρ ∧ Same F F' ∧ whileN t g m ρ = some o, ⟨n, F, ρ, S, Same.refl _, hd⟩, fun m σ H ⟨F', ρ, S, fz, hd⟩ => ?_⟩
  have q := nxMono (o := o) fz q
  have fz' := fz
  cases m with
  | zero => cases hd
  | succ m =>
    obtain ⟨k, h1, h2⟩ := Option.bind_eq_some_iff.mp hd
    refine ⟨H0, F0, F', ρ, k, S, h1, fun H1 F1 e1 => ?_⟩
    cases k with
    | false =>
      cases h2
      exact iteF (q σ H1 F1 (S.ext e1) e1.f)
    | true =>
      obtain ⟨o1, h3, h4⟩ := Option.bind_eq_some_iff.mp h2
      refine iteT ⟨fun σ H => ∃ F2 ρ, St X.K H0 F0 H F2 σ ρ ∧ Same F F2 ∧ whileN t g m ρ = some o, fun σ' H' w => ⟨m, Nat.lt_succ_self m, w⟩, ?_⟩
      cases o1 with
      | nx ρ1 => exact ⟨H0, F0, F1, ρ, .nx ρ1, S.ext e1, h3, fun σ' H' F2 S' z => ⟨F2, ρ1, S', (fz'.trans e1.f).trans z, h4⟩⟩
      | rt d =>
        cases h4
        exact ⟨H0, F0, F1, ρ, .rt d, S.ext e1, h3, q⟩

/-! ### what is walked -/
/-- at any later state (B kept, F1 frozen) the iterator yields the items ds -/
def Yld (K : PySem.W.Frag) (J : It) (B F1 : Hp) (ds : List D) : Prop := ∀ (i : Nat) (H F : Hp), Same B H → Same F1 F → Same F H →
  (i < ds.length → J.go i H) ∧ (i = ds.length → J.stop i H) ∧ ∀ x H' d, ds[i]? = some d → J.yld i H x H' → ∃ F', Ext H F H' F' ∧ Rep K F' x d
/-- br: the walked list may be one that only a slot holds (no such list is changed meanwhile) -/
def tI (K : PySem.W.Frag) (br : Bool) (src : FA) : TI := fun σ H R => ∃ (H0 F0 F : Hp) (ρ : Rho) (ds : List D), St K H0 F0 H F σ ρ ∧ src ρ = some ds ∧ ∀ H' F' J, Ext H F H' F' → Yld K J (if br then H' else F') F' ds → R J H'
abbrev IX (X : Cx) (tg e : Expr) (br : Bool) (src : FA) : Prop := PI X tg e (tI X.K br src)
theorem piImp {tg : Expr} {w w' : TI} (h : PI X tg e w) (im : ∀ σ H R, w' σ H R → w σ H R) : PI X tg e w' := ⟨fun pins s σ H R I q => h.run pins s σ H R I (im _ _ _ q)⟩
theorem piOr {tg : Expr} {w w' : TI} (h : PI X tg e w) (h' : PI X tg e w') : PI X tg e (fun σ H R => w σ H R ∨ w' σ H R) := ⟨fun pins s σ H R I q => by
  rcases q with q | q
  · exact h.run pins s σ H R I q
  · exact h'.run pins s σ H R I q⟩
theorem s_for {iter tg : Expr} {body : List Stmt} {is : List Nat} {w : TG} {tf : TgF} {src : FA} (hp : PassesOwn (model X.prog X.w) X.A X.env X.xe) (hc : X.calm = true) (hi : IX X tg iter false src) (hg : PG X tg w) (ht : TgOk X.K is w tf) (hb : SXs X fr body g)
    (hs : ∀ x, foldedSetIterable iter X.env x = pure x := by intro _; rfl) : SX X fr (.For tg iter body [] pos) (gFor src tf g) := psImp (ps_for hp hc hi hg hb hs) fun D σ H ⟨H0, F0, F, ρ, o, S, hd, q⟩ => by
  obtain ⟨ds, h1, h2⟩ := Option.bind_eq_some_iff.mp hd
  refine ⟨H0, F0, F, ρ, ds, S, h1, fun H1 F1 J e1 y => ?_⟩
  have y : Yld X.K J F1 F1 ds := y
  refine ⟨fun i m σ H => m = ds.length - i ∧ i ≤ ds.length ∧ ∃ F' ρ, St X.K H0 F0 H F' σ ρ ∧ Same F1 F' ∧ forL tf g (ds.drop i) ρ = some o, ⟨ds.length, by simp, Nat.zero_le _, F1, ρ, S.ext e1, Same.refl _, by simpa using h2⟩, ?_⟩
  rintro i m σ H ⟨rfl, hi, F3, ρ, S, fz, hf⟩
  have q := nxMono (o := o) (e1.f.trans fz) q
  obtain ⟨y1, y2, y3⟩ := y i H F3 (fz.trans S.sub) fz S.sub
  by_cases hlt : i < ds.length
  · have hdr : ds.drop i = ds[i] :: ds.drop (i + 1) := List.drop_eq_getElem_cons hlt
    rw [hdr] at hf
    obtain ⟨ρ1, h3, h4⟩ := Option.bind_eq_some_iff.mp hf
    obtain ⟨o1, h5, h6⟩ := Option.bind_eq_some_iff.mp h4
    refine .inr ⟨y1 hlt, fun σ H => ∃ F' ρ, St X.K H0 F0 H F' σ ρ ∧ Same F1 F' ∧ forL tf g (ds.drop (i + 1)) ρ = some o, fun σ' H' ⟨F', ρ', S', z, w⟩ => ⟨_, by omega, rfl, hlt, F', ρ', S', z, w⟩, fun x H' yy => ?_⟩
    obtain ⟨F2, e2, r2⟩ := y3 x H' ds[i] (by simp [hlt]) yy
    refine ht.run H0 F0 F2 H' σ ρ ρ1 x _ _ (S.ext e2) r2 h3 fun σ' S' _ _ => ?_
    cases o1 with
    | nx ρ2 => exact ⟨H0, F0, F2, ρ1, .nx ρ2, S', h5, fun σ3 H3 F4 S3 z => ⟨F4, ρ2, S3, (fz.trans e2.f).trans z, h6⟩⟩
    | rt d =>
      cases h6
      exact ⟨H0, F0, F2, ρ1, .rt d, S', h5, q⟩
  · have e : ds.drop i = [] := List.drop_eq_nil_of_le (by omega)
    rw [e] at hf
    cases hf
    exact .inl ⟨y2 (by omega), q σ H F3 S (Same.refl _)⟩
end
end Pu
set_option maxRecDepth 100000
/-! New objects, sources, comprehensions, a def's body. -/
namespace Pu
open PySem PySem.Spec PyProof.Rows L2

/-! ### a new list or dict -/
def tF (K : PySem.W.Frag) (f : F1) : TE := fun σ H Q => ∃ (H0 F0 F : Hp) (ρ : Rho) (d : D), St K H0 F0 H F σ ρ ∧ f ρ = some d ∧ ∀ H' F' p o, Ext H F H' F' → F' p = none → H p = none → H' p = some o → RepO K F' o d → Q (.ref p) H'
abbrev PF (X : Cx) (e : Expr) (f : F1) : Prop := PE X e (tF X.K f)
theorem Ext.frz {H F : Hp} (s : Same F H) {p : Addr} {o : HO} (hp : H p = some o) (fp : F p = none) : Same F (upd F p o) ∧ Same (upd F p o) H := by
  refine ⟨fun b u h => by rw [upd_ne (ne_of_none h fp)]; exact h, fun b u h => ?_⟩
  by_cases e : b = p
  · subst e; rw [upd_same] at h; cases h; exact hp
  · rw [upd_ne e] at h; exact s _ _ h
/-- what an own object becomes when nobody writes it any more -/
theorem frozen {X : Cx} {pins : List (Addr × Obj)} {σ : L2.St} {s : Shared} {H F : Hp} {p : Addr} {o : HO} {d : D} (I : Inv X pins σ H s) (sub : Same F H) (hp : H p = some o) (fp : F p = none) (r : RepO X.K F o d) :
    ∃ u, Inv X pins σ (upd H p u) s ∧ Same F (upd F p u) ∧ Same (upd F p u) (upd H p u) ∧ Rep X.K (upd F p u) (.ref p) d := by
  have g : ∀ u : HO, Same F (upd F p u) := fun u => same_upd fp
  have g2 : ∀ u : HO, Same (upd F p u) (upd H p u) := fun u b w h => by
    by_cases e : b = p
    · subst e; rw [upd_same] at h ⊢; exact h
    · rw [upd_ne e] at h ⊢; exact sub _ _ h
  unfold RepO at r
  split at r
  · rename_i xs ds
    have e : upd H p (.lst xs) = H := by
      funext b
      unfold upd
      split
      · rename_i z; subst z; exact hp.symm
      · rfl
    refine ⟨.lst xs, by rw [e]; exact I, g _, g2 _, .lst (.inl (.inl upd_same)) (r.mono (g _))⟩
  · rename_i kvs ds
    obtain ⟨od, J⟩ := I.lock hp trivial
    exact ⟨_, J, g _, g2 _, .dK upd_same (r.mono (g _))⟩
  · rename_i kvs ds
    obtain ⟨od, J⟩ := I.lock hp trivial
    exact ⟨_, J, g _, g2 _, .dT upd_same (r.mono (g _))⟩
  · exact r.elim
section
variable {X : Cx} {e : Expr} {f : F1}
theorem PF.toX (h : PF X e f) : PX X e f := ⟨fun pins s σ H Q I ⟨H0, F0, F, ρ, d, S, hd, q⟩ => by
  refine thn (h.run pins s σ H (fun v H' => ∃ F' p o, v = .ref p ∧ Ext H F H' F' ∧ F' p = none ∧ H p = none ∧ H' p = some o ∧ RepO X.K F' o d) I ⟨H0, F0, F, ρ, d, S, hd, fun H' F' p o e1 h1 h2 h3 h4 => ⟨F', p, o, rfl, e1, h1, h2, h3, h4⟩⟩) fun v s1 hv => ?_
  obtain ⟨x, H1, I1, r1, F1, p, o, rfl, e1, h1, h2, h3, h4⟩ := hv
  obtain ⟨u, I2, g1, g2, r2⟩ := frozen I1 e1.sub h3 h1 h4
  refine ⟨.ref p, _, I2, r1, q _ _ _ ⟨fun b w hb => ?_, e1.f.trans g1, g2, fun b w hb => ?_⟩ r2⟩
  · rw [upd_ne (ne_of_none hb h2)]; exact e1.h _ _ hb
  · by_cases e : b = p
    · subst e; exact .inr h2
    · rw [upd_ne e] at hb; exact e1.new _ _ hb⟩
/-- as own object, any list that has just been made -/
theorem new_own {K : PySem.W.Frag} {H F : Hp} {Q : VK} {xs : List V} {ds : List D} (s : Same F H) (q : ∀ H' F' p o, Ext H F H' F' → F' p = none → H p = none → H' p = some o → RepO K F' o (.list ds) → Q (.ref p) H') (r : Reps K F xs ds) : ∀ p, H p = none → Q (.ref p) (upd H p (.lst xs)) := fun p hp =>
  q _ F p _ (Ext.aside s (same_upd hp)) (s.free hp) hp upd_same r
end
section
variable {X : Cx} {e a b : Expr} {es : List Expr} {f g : F1} {fs : List F1} {ms : List Bool} {pos p : Pos}
theorem f_lst (ha : PAr X es ms (fArgs fs)) (hm : allV ms = true := by rfl) (hl : decide (ms.length ≤ 1000) = true := by rfl) : PF X (.List es pos) (fLst fs) := peImp (pe_lst ha) fun σ H Q ⟨H0, F0, F, ρ, d, S, hd, q⟩ => by
  obtain ⟨ds, hds, rfl⟩ := Option.map_eq_some_iff.mp hd
  refine ⟨H0, F0, F, ρ, ds, S, hds, fun H1 F1 vs e1 r1 => ⟨?_, new_own e1.sub (fun H' F' p o e h1 h2 h3 h4 => q H' F' p o (e1.trans e) h1 (e1.h.free h2) h3 h4) (r1.all hm)⟩⟩
  rw [r1.length, sizeLine_eq]
  have := of_decide_eq_true hl
  omega
theorem f_listC (hg : Gl X "list") (hm : X.mg "list" = none) (ha : PB X a f) (h1 : starEach [a] X.env = (false, eval a X.env) :: starEach [] X.env := by rfl) : PF X (.Call (.Name "list" p) [a] [] pos) (fCall (m1 lstD) [f]) :=
  peImp (pe_callTy call_list_of hg hm PyProof.Rows.boot_list (pa_cons ha pa_nil h1) (by decide) (by decide) h1) fun σ H Q ⟨H0, F0, F, ρ, d, S, hd, q⟩ => by
  obtain ⟨ds, hds, ho⟩ := Option.bind_eq_some_iff.mp hd
  obtain ⟨x, hx, h2⟩ := Option.bind_eq_some_iff.mp hds
  obtain ⟨ys, h3, h4⟩ := Option.bind_eq_some_iff.mp h2
  cases h3
  cases h4
  refine ⟨H0, F0, F, ρ, x, S, hx, fun H1 F1 v e1 r1 => ?_⟩
  have q' : ∀ (ds : List D), d = .list ds → ∀ H' F' p o, Ext H1 F1 H' F' → F' p = none → H1 p = none → H' p = some o → RepO X.K F' o (.list ds) → Q (.ref p) H' := fun ds ed H' F' p o e h1 h2 h3 h4 => by
    subst ed
    exact q H' F' p o (e1.trans e) h1 (e1.h.free h2) h3 h4
  unfold m1 lstD at ho
  simp only at ho
  split at ho
  · cases ho
    obtain ⟨a, xs, rfl, hs, rr⟩ := r1.list e1.sub
    exact ⟨a, xs, rfl, .inl hs, new_own e1.sub (q' _ rfl) rr⟩
  · cases ho
    obtain ⟨a, xs, rfl, hf, hs, rr⟩ := r1.tuple e1.sub
    exact ⟨a, xs, rfl, .inr hs, new_own e1.sub (q' _ rfl) rr⟩
  · cases ho
end

/-! ### statements with new objects -/
section
variable {K : PySem.W.Frag} {H0 F0 H F H' F' : Hp} {σ : L2.St} {ρ : Rho}
theorem St.noOwn (S : St K H0 F0 H F σ ρ) {p : Addr} (hp : H p = none) : ∀ (j : Nat) (dj : D), ρ[j]? = some (.own dj) → σ[j]? ≠ some (some (.ref p)) := fun j dj h1 h2 => by
  obtain ⟨q, u, e, _, _, hq, _⟩ := S.sl j _ _ h1 h2
  cases e
  rw [hp] at hq; cases hq
theorem set_lt {α : Type} {l : List α} {i : Nat} {x y : α} (h : (l.set i x)[i]? = some y) : i < l.length := by
  have := (List.getElem?_eq_some_iff.mp h).1
  simpa using this
theorem St.putOwn (S : St K H0 F0 H F σ ρ) (i : Nat) {p : Addr} {o : HO} {d : D} (fp : F p = none) (h0 : H0 p = none) (hp : H p = some o) (r : RepO K F o d)
    (no : ∀ (j : Nat) (dj : D), ρ[j]? = some (.own dj) → σ[j]? ≠ some (some (.ref p))) : St K H0 F0 H F (σ.set i (some (.ref p))) (ρ.set i (.own d)) := by
  refine ⟨S.h, S.f, S.sub, S.new, by simp [S.len], fun j s x h1 h2 => ?_, fun j k dj dk q hjk h1 h2 h3 h4 => ?_⟩
  · by_cases e : i = j
    · subst e
      have hl := set_lt h1
      rw [List.getElem?_set_self hl] at h1
      rw [List.getElem?_set_self (by rw [← S.len]; exact hl)] at h2
      cases h1; cases h2
      exact ⟨p, o, rfl, fp, h0, hp, r⟩
    · rw [List.getElem?_set_ne e] at h1 h2
      exact S.sl j s x h1 h2
  · by_cases ej : i = j
    · subst ej
      have hl := set_lt h1
      rw [List.getElem?_set_self (by rw [← S.len]; exact hl)] at h3
      cases h3
      rw [List.getElem?_set_ne hjk] at h2 h4
      exact no k dk h2 h4
    · rw [List.getElem?_set_ne ej] at h1 h3
      by_cases ek : i = k
      · subst ek
        have hl := set_lt h2
        rw [List.getElem?_set_self (by rw [← S.len]; exact hl)] at h4
        cases h4
        exact no j dj h1 h3
      · rw [List.getElem?_set_ne ek] at h2 h4
        exact S.dj j k dj dk q hjk h1 h2 h3 h4
/-- an own object frozen -/
theorem St.freeze (S : St K H0 F0 H F σ ρ) {i : Nat} {p : Addr} {u : HO} {d : D} (hi : ρ[i]? = some (.own d)) (hσ : σ[i]? = some (some (.ref p))) (g1 : Same F (upd F p u)) (g2 : Same (upd F p u) (upd H p u)) (r : Rep K (upd F p u) (.ref p) d) :
    St K H0 F0 (upd H p u) (upd F p u) σ (ρ.set i (.val d)) := by
  obtain ⟨p', o', e, f0, h0, hp, _⟩ := S.sl i _ _ hi hσ
  cases e
  have hl : i < ρ.length := (List.getElem?_eq_some_iff.mp hi).1
  refine ⟨fun b w q => ?_, S.f.trans g1, g2, fun b w q => ?_, by simp [S.len], fun j s x h1 h2 => ?_, fun j k dj dk q hjk h1 h2 h3 h4 => ?_⟩
  · rw [upd_ne (ne_of_none q h0)]; exact S.h _ _ q
  · by_cases e : b = p
    · subst e; exact .inr h0
    · rw [upd_ne e] at q; exact S.new _ _ q
  · by_cases e : i = j
    · subst e
      rw [List.getElem?_set_self hl] at h1
      rw [hσ] at h2
      cases h1; cases h2
      exact ⟨_, rfl, r⟩
    · rw [List.getElem?_set_ne e] at h1
      have q := S.sl j s x h1 h2
      cases s with
      | no => trivial
      | val d =>
        obtain ⟨v, e1, r1⟩ := q
        exact ⟨v, e1, r1.mono g1⟩
      | bor d =>
        obtain ⟨v, e1, r1⟩ := q
        exact ⟨v, e1, r1.mono (Same.refl _) g1⟩
      | own d2 =>
        obtain ⟨q, w, e1, f1, h1', hq, r'⟩ := q
        have ne : q ≠ p := fun z => by
          subst z
          exact S.dj i j d d2 q e hi h1 hσ (by rw [h2, e1])
        exact ⟨q, w, e1, by rw [upd_ne ne]; exact f1, h1', by rw [upd_ne ne]; exact hq, r'.mono g1⟩
  · have aux : ∀ (m : Nat) (dm : D), (ρ.set i (.val d))[m]? = some (.own dm) → ρ[m]? = some (.own dm) := fun m dm z => by
      by_cases e : i = m
      · subst e; rw [List.getElem?_set_self hl] at z; cases z
      · rw [List.getElem?_set_ne e] at z; exact z
    exact S.dj j k dj dk q hjk (aux j dj h1) (aux k dk h2) h3 h4
end
section
variable {X : Cx} {fr : Bool} {e a b : Expr} {f g : F1} {st : Stmt} {w : G} {pos : Pos}
theorem s_own {i : Nat} {x : Str} {pos' : Pos} (hN : X.N.Nodup) (hi : X.N[i]? = some x) (hx : Loc X.env.scope x) (he : PF X e f) (hs : swapsWith e (some (.Name x pos')) pos.line X.env = pure false := by rfl)
    (hf : X.fn x = true ∨ X.env.scope.names.lookup x = some .local := by first | exact .inl rfl | exact .inr rfl | assumption) : SX X fr (.Assign [.Name x pos'] e pos) (gOwn i f) := psImp (ps_set hN hi hx he hs hf) fun D σ H ⟨H0, F0, F, ρ, o, S, hd, q⟩ => by
  obtain ⟨d, h1, rfl⟩ := Option.map_eq_some_iff.mp hd
  exact ⟨H0, F0, F, ρ, d, S, h1, fun H1 F1 p o e1 f1 hp h1 r1 => q _ H1 F1 ((S.ext e1).putOwn i f1 (S.h.free hp) h1 r1 (S.noOwn hp)) e1.f⟩
/-- a ghost step: the slot's object is a value from here on -/
theorem s_frz (i : Nat) (h : SX X fr st w) : SX X fr st (gFrz i w) := ⟨fun pins s σ H E I ⟨H0, F0, F, ρ, o, S, hd, q⟩ => by
  unfold gFrz at hd
  cases e : atR ρ i with
  | no => rw [e] at hd; cases hd
  | val d => rw [e] at hd; cases hd
  | bor d => rw [e] at hd; cases hd
  | own d =>
    rw [e] at hd
    obtain ⟨hi, x, hσ, p, ob, rfl, f0, h0, hp, r⟩ := S.at e (by simp)
    obtain ⟨u, I2, g1, g2, r2⟩ := frozen I S.sub hp f0 r
    exact h.run pins s σ _ E I2 ⟨H0, F0, _, _, o, S.freeze hi hσ g1 g2 r2, hd, nxMono g1 q⟩⟩
/-- return of a new list or dict -/
theorem s_retF (p : PF X e f) : SX X true (.Return (some e) pos) (gRet f) := psImp (ps_ret p) fun D σ H ⟨H0, F0, F, ρ, o, S, hd, q⟩ => by
  obtain ⟨d, h1, rfl⟩ := Option.map_eq_some_iff.mp hd
  exact ⟨H0, F0, F, ρ, d, S, h1, fun H1 F1 p o e1 f1 hp h1 r1 => q H1 F1 _ (S.toExt.trans e1) ⟨p, o, rfl, f1, S.h.free hp, h1, r1⟩⟩
/-- return of what only the slot holds -/
def gRetOwn (i : Nat) : G := fun ρ => match atR ρ i with
  | .own d => some (.rt d)
  | _ => none
theorem s_retOwn (i : Nat) {x : Str} {pos' : Pos} (hN : X.N[i]? = some x := by rfl) (hv : Vis X.env.scope x := by first | exact Or.inl rfl | exact Or.inr (Or.inl rfl) | exact Or.inr (Or.inr rfl)) (hd : (x == ("__debug__" : Str)) = false := by decide)
    (hcd : (x == ("__classdict__" : Str)) = false := by decide) : SX X true (.Return (some (.Name x pos')) pos) (gRetOwn i) := psImp (ps_ret (pv i hN hv hd hcd)) fun D σ H ⟨H0, F0, F, ρ, o, S, hd, q⟩ => by
  unfold gRetOwn at hd
  cases e : atR ρ i with
  | no => rw [e] at hd; cases hd
  | val d => rw [e] at hd; cases hd
  | bor d => rw [e] at hd; cases hd
  | own d =>
    rw [e] at hd
    cases hd
    obtain ⟨hi, x, hσ, p, ob, rfl, f0, h0, hp, r⟩ := S.at e (by simp)
    exact ⟨_, hσ, q H F _ S.toExt ⟨p, ob, rfl, f0, h0, hp, r⟩⟩

/-! ### a, b = x, y -/
def gPar (i j : Nat) (oi oj : Bool) (f g : F1) : G := fun ρ => (f ρ).bind fun x => (g ρ).bind fun y => some (.nx ((ρ.set i (if oi then .own x else .val x)).set j (if oj then .own y else .val y)))
section
variable {i j : Nat} {x y : Str} {px py pt p2 : Pos} {kt k2 : Nat}
theorem gPar_some {oi oj : Bool} {ρ : Rho} {o : Out} (h : gPar i j oi oj f g ρ = some o) : ∃ x y, f ρ = some x ∧ g ρ = some y ∧ o = .nx ((ρ.set i (if oi then .own x else .val x)).set j (if oj then .own y else .val y)) := by
  obtain ⟨x, h1, h2⟩ := Option.bind_eq_some_iff.mp h
  obtain ⟨y, h3, h4⟩ := Option.bind_eq_some_iff.mp h2
  exact ⟨x, y, h1, h3, (Option.some.inj h4).symm⟩
theorem s_parVV (hc : X.calm = true) (hN : X.N.Nodup) (hi : X.N[i]? = some x) (hj : X.N[j]? = some y) (hij : i ≠ j) (hx : X.env.scope.names.lookup x = some .local) (hy : X.env.scope.names.lookup y = some .local) (ha : PX X a f) (hb : PX X b g)
    (hw : swappedStores [.Tuple [.Name x px, .Name y py] kt pt] (.Tuple [a, b] k2 p2) X.env = pure (some [x, y])) (hs : swapsWithSole [.Tuple [.Name x px, .Name y py] kt pt] (.Tuple [a, b] k2 p2) pos.line X.env = pure false := by rfl)
    (h1 : starEach [a, b] X.env = (false, eval a X.env) :: starEach [b] X.env := by rfl) (h2 : starEach [b] X.env = (false, eval b X.env) :: starEach [] X.env := by rfl) : SX X fr (.Assign [.Tuple [.Name x px, .Name y py] kt pt] (.Tuple [a, b] k2 p2) pos) (gPar i j false false f g) :=
  psImp (ps_par hc hN hi hj hij hx hy (pa_cons ha (pa_cons hb pa_nil h2) h1) hw hs) fun D σ H ⟨H0, F0, F, ρ, o, S, hd, q⟩ => by
  obtain ⟨d1, d2, g1, g2, rfl⟩ := gPar_some hd
  refine ⟨H0, F0, F, ρ, d1, S, g1, fun H1 F1 v1 e1 r1 => ⟨H0, F0, F1, ρ, d2, S.ext e1, g2, fun H2 F2 v2 e2 r2 => ⟨_, _, rfl, ?_⟩⟩⟩
  exact q _ H2 F2 ((((S.ext e1).ext e2).set i (r1.mono e2.f)).set j r2) (e1.f.trans e2.f)
theorem s_parOV (hc : X.calm = true) (hN : X.N.Nodup) (hi : X.N[i]? = some x) (hj : X.N[j]? = some y) (hij : i ≠ j) (hx : X.env.scope.names.lookup x = some .local) (hy : X.env.scope.names.lookup y = some .local) (ha : PF X a f) (hb : PX X b g)
    (hw : swappedStores [.Tuple [.Name x px, .Name y py] kt pt] (.Tuple [a, b] k2 p2) X.env = pure (some [x, y])) (hs : swapsWithSole [.Tuple [.Name x px, .Name y py] kt pt] (.Tuple [a, b] k2 p2) pos.line X.env = pure false := by rfl)
    (h1 : starEach [a, b] X.env = (false, eval a X.env) :: starEach [b] X.env := by rfl) (h2 : starEach [b] X.env = (false, eval b X.env) :: starEach [] X.env := by rfl) : SX X fr (.Assign [.Tuple [.Name x px, .Name y py] kt pt] (.Tuple [a, b] k2 p2) pos) (gPar i j true false f g) :=
  psImp (ps_par hc hN hi hj hij hx hy (pa_cons ha (pa_cons hb pa_nil h2) h1) hw hs) fun D σ H ⟨H0, F0, F, ρ, o, S, hd, q⟩ => by
  obtain ⟨d1, d2, g1, g2, rfl⟩ := gPar_some hd
  refine ⟨H0, F0, F, ρ, d1, S, g1, fun H1 F1 p o1 e1 fp hp h1 r1 => ⟨H0, F0, F1, ρ, d2, S.ext e1, g2, fun H2 F2 v2 e2 r2 => ⟨_, _, rfl, ?_⟩⟩⟩
  have fp2 : F2 p = none := by
    cases z : F2 p with
    | none => rfl
    | some u =>
      rcases e2.new p u z with z | z
      · rw [fp] at z; cases z
      · rw [h1] at z; cases z
  exact q _ H2 F2 ((((S.ext e1).ext e2).putOwn i fp2 (S.h.free hp) (e2.h _ _ h1) (r1.mono e2.f) (S.noOwn hp)).set j r2) (e1.f.trans e2.f)
theorem s_parVO (hc : X.calm = true) (hN : X.N.Nodup) (hi : X.N[i]? = some x) (hj : X.N[j]? = some y) (hij : i ≠ j) (hx : X.env.scope.names.lookup x = some .local) (hy : X.env.scope.names.lookup y = some .local) (ha : PX X a f) (hb : PF X b g)
    (hw : swappedStores [.Tuple [.Name x px, .Name y py] kt pt] (.Tuple [a, b] k2 p2) X.env = pure (some [x, y])) (hs : swapsWithSole [.Tuple [.Name x px, .Name y py] kt pt] (.Tuple [a, b] k2 p2) pos.line X.env = pure false := by rfl)
    (h1 : starEach [a, b] X.env = (false, eval a X.env) :: starEach [b] X.env := by rfl) (h2 : starEach [b] X.env = (false, eval b X.env) :: starEach [] X.env := by rfl) : SX X fr (.Assign [.Tuple [.Name x px, .Name y py] kt pt] (.Tuple [a, b] k2 p2) pos) (gPar i j false true f g) :=
  psImp (ps_par hc hN hi hj hij hx hy (pa_cons ha (pa_cons hb pa_nil h2) h1) hw hs) fun D σ H ⟨H0, F0, F, ρ, o, S, hd, q⟩ => by
  obtain ⟨d1, d2, g1, g2, rfl⟩ := gPar_some hd
  refine ⟨H0, F0, F, ρ, d1, S, g1, fun H1 F1 v1 e1 r1 => ⟨H0, F0, F1, ρ, d2, S.ext e1, g2, fun H2 F2 p o2 e2 fp hp h2 r2 => ⟨_, _, rfl, ?_⟩⟩⟩
  have S2 := ((S.ext e1).ext e2).set i (r1.mono e2.f)
  refine q _ H2 F2 (S2.putOwn j fp (S.h.free (e1.h.free hp)) h2 r2 fun k dk z1 z2 => ?_) (e1.f.trans e2.f)
  by_cases e : i = k
  · subst e
    have hl := set_lt z1
    rw [List.getElem?_set_self hl] at z1; cases z1
  · rw [List.getElem?_set_ne e] at z1 z2
    exact S.noOwn (e1.h.free hp) k dk z1 z2
theorem s_parOO (hc : X.calm = true) (hN : X.N.Nodup) (hi : X.N[i]? = some x) (hj : X.N[j]? = some y) (hij : i ≠ j) (hx : X.env.scope.names.lookup x = some .local) (hy : X.env.scope.names.lookup y = some .local) (ha : PF X a f) (hb : PF X b g)
    (hw : swappedStores [.Tuple [.Name x px, .Name y py] kt pt] (.Tuple [a, b] k2 p2) X.env = pure (some [x, y])) (hs : swapsWithSole [.Tuple [.Name x px, .Name y py] kt pt] (.Tuple [a, b] k2 p2) pos.line X.env = pure false := by rfl)
    (h1 : starEach [a, b] X.env = (false, eval a X.env) :: starEach [b] X.env := by rfl) (h2 : starEach [b] X.env = (false, eval b X.env) :: starEach [] X.env := by rfl) : SX X fr (.Assign [.Tuple [.Name x px, .Name y py] kt pt] (.Tuple [a, b] k2 p2) pos) (gPar i j true true f g) :=
  psImp (ps_par hc hN hi hj hij hx hy (pa_cons ha (pa_cons hb pa_nil h2) h1) hw hs) fun D σ H ⟨H0, F0, F, ρ, o, S, hd, q⟩ => by
  obtain ⟨d1, d2, g1, g2, rfl⟩ := gPar_some hd
  refine ⟨H0, F0, F, ρ, d1, S, g1, fun H1 F1 p1 o1 e1 fp1 hp1 h1 r1 => ⟨H0, F0, F1, ρ, d2, S.ext e1, g2, fun H2 F2 p o2 e2 fp hp h2 r2 => ⟨_, _, rfl, ?_⟩⟩⟩
  have fp2 : F2 p1 = none := by
    cases z : F2 p1 with
    | none => rfl
    | some u =>
      rcases e2.new p1 u z with z | z
      · rw [fp1] at z; cases z
      · rw [h1] at z; cases z
  have S2 := ((S.ext e1).ext e2).putOwn i fp2 (S.h.free hp1) (e2.h _ _ h1) (r1.mono e2.f) (S.noOwn hp1)
  refine q _ H2 F2 (S2.putOwn j fp (S.h.free (e1.h.free hp)) h2 r2 fun k dk z1 z2 => ?_) (e1.f.trans e2.f)
  by_cases e : i = k
  · subst e
    have hl := set_lt z2
    rw [List.getElem?_set_self hl] at z2
    cases z2
    rw [h1] at hp; cases hp
  · rw [List.getElem?_set_ne e] at z1 z2
    exact S.noOwn (e1.h.free hp) k dk z1 z2
end
/-- x.append(e) -/
theorem s_app (i : Nat) {x : Str} {p1 p2 cpos : Pos} (he : PX X e f) (hN : X.N[i]? = some x := by rfl) (hv : Vis X.env.scope x := by first | exact Or.inl rfl | exact Or.inr (Or.inl rfl) | exact Or.inr (Or.inr rfl)) (hd : (x == ("__debug__" : Str)) = false := by decide)
    (hcd : (x == ("__classdict__" : Str)) = false := by decide) (hbase : attributeBase (.Name x p1) "append" X.env (eval (.Name x p1) X.env) = eval (.Name x p1) X.env := by rfl)
    (hfew : ((backTo cpos (starEach [e] X.env)).all (fun x => !x.1) && (backToKw cpos (keywordEach [] X.env)).all (fun x => x.1.isSome) && decide (([e] : List Expr).length + ([] : List Keyword).length + (if ([] : List Keyword).isEmpty then 0 else 1) < 30)) = true := by rfl)
    (hline : (p2.endLine == cpos.line) = true := by rfl) (h1 : starEach [e] X.env = (false, eval e X.env) :: starEach [] X.env := by rfl)
    (hs : swapsWith (.Call (.Attribute (.Name x p1) "append" p2) [e] [] cpos) none pos.line X.env = pure false := by rfl) : SX X fr (.Expr (.Call (.Attribute (.Name x p1) "append" p2) [e] [] cpos) pos) (gApp i f) :=
  psImp (ps_expr (pe_bm PySem.F.plainAttrs_list PySem.F.slot_list_append PySem.F.type_list_append mt_append (pv i hN hv hd hcd) (pa_cons he pa_nil h1) hbase hfew hline h1) hs) fun D σ H ⟨H0, F0, F, ρ, o, S, hd, q⟩ => by
  obtain ⟨y, hy, h2⟩ := Option.bind_eq_some_iff.mp hd
  cases e : atR ρ i with
  | no => rw [e] at h2; cases h2
  | val d => rw [e] at h2; cases h2
  | bor d => rw [e] at h2; cases h2
  | own d =>
    rw [e] at h2
    cases d <;> first | (cases h2; done) | skip
    rename_i ds
    simp only at h2
    split at h2
    · rename_i hz
      cases h2
      obtain ⟨hi, z, hσ, p, ob, rfl, f0, h0, hp, r⟩ := S.at e (by simp)
      unfold RepO at r
      split at r
      · rename_i xs ds' e'
        cases e'
        refine ⟨_, hσ, .inl ⟨rfl, _, .of hp⟩, H0, F0, F, ρ, y, S, hy, fun H1 F1 v e1 r1 => ⟨p, xs, v, rfl, rfl, e1.h _ _ hp, ?_, ?_⟩⟩
        · rw [r.length]; exact of_decide_eq_true hz
        · exact q σ _ F1 ((S.ext e1).change (o' := .lst (xs ++ [v])) hi hσ ((r.mono e1.f).snoc r1)) e1.f
      · rename_i z; cases z
      · rename_i z; cases z
      · exact r.elim
    · cases h2
end
end Pu
set_option maxRecDepth 100000
/-! Sources, comprehensions, a def's body. -/
namespace Pu
open PySem PySem.Spec PyProof.Rows L2

/-! ### lists, tuples, texts, dicts, ranges walked -/
section
variable {K : PySem.W.Frag} {B F1 H1 : Hp}
theorem yld_list {a : Addr} {xs : List V} {ds : List D} (hs : SqL K B a xs) (r : Reps K F1 xs ds) : Yld K (Itl K a) B F1 ds := fun i H F gB gF sub => by
  have hs' := gB.seq hs
  refine ⟨fun hi => ?_, fun hi => ⟨xs, hs', by rw [r.length]; omega⟩, fun x H' d hd hy => ?_⟩
  · have hx : i < xs.length := by rw [r.length]; exact hi
    exact ⟨xs, xs[i], hs', by simp [hx]⟩
  · obtain ⟨rfl, hx⟩ := hy
    obtain ⟨x', e, r'⟩ := r.get hd
    have := hx xs hs'
    rw [e] at this
    cases this
    exact ⟨F, Ext.refl sub, r'.mono gF⟩
theorem yld_tup {a : Addr} {xs : List V} {ds : List D} (hs : B a = some (.tup xs)) (r : Reps K F1 xs ds) : Yld K (Itt K a) B F1 ds := fun i H F gB gF sub => by
  have hs' : SqT K H a xs := .of (gB _ _ hs)
  refine ⟨fun hi => ?_, fun hi => ⟨xs, hs', by rw [r.length]; omega⟩, fun x H' d hd hy => ?_⟩
  · have hx : i < xs.length := by rw [r.length]; exact hi
    exact ⟨xs, xs[i], hs', by simp [hx]⟩
  · obtain ⟨rfl, hx⟩ := hy
    obtain ⟨x', e, r'⟩ := r.get hd
    have := hx xs hs'
    rw [e] at this
    cases this
    exact ⟨F, Ext.refl sub, r'.mono gF⟩
theorem yld_str {x : Str} (ok : PyData.strOk x = true) : Yld K (Its x) B F1 (x.cps.toList.map fun c => .str ⟨#[c]⟩) := fun i H F gB gF sub => by
  have hl : (x.cps.toList.map fun c => (PyData.str ⟨#[c]⟩)).length = x.cps.size := by simp
  rw [hl]
  refine ⟨fun hi => hi, fun hi => Nat.le_of_eq hi.symm, fun v H' d hd hy => ?_⟩
  obtain ⟨rfl, c, hc, rfl⟩ := hy
  have e : d = .str ⟨#[c]⟩ := by
    rw [List.getElem?_map] at hd
    have e2 : x.cps.toList[i]? = some c := by simpa using hc
    rw [e2] at hd
    exact (Option.some.inj hd).symm
  subst e
  refine ⟨F, Ext.refl sub, .str _ ?_⟩
  have hm : c ∈ x.cps := by
    obtain ⟨h1, h2⟩ := Array.getElem?_eq_some_iff.mp hc
    rw [← h2]; exact Array.getElem_mem h1
  unfold PyData.strOk at ok ⊢
  have := Array.all_eq_true_iff_forall_mem.mp ok c hm
  simpa using this
theorem rng_get : ∀ {n i : Nat} {lo : Int} {d : D}, (rngL n lo)[i]? = some d → d = .int (lo + i)
  | 0, i, lo, d, h => by simp [rngL] at h
  | n + 1, 0, lo, d, h => by
    simp [rngL] at h
    rw [← h]; simp
  | n + 1, i + 1, lo, d, h => by
    have h' : (rngL n (lo + 1))[i]? = some d := by simpa [rngL] using h
    rw [rng_get h']
    congr 1
    omega
theorem rng_len : ∀ (n : Nat) (lo : Int), (rngL n lo).length = n
  | 0, _ => rfl
  | n + 1, lo => congrArg (· + 1) (rng_len n (lo + 1))
theorem yld_rng {lo : Int} {n : Nat} : Yld K (Itr lo n) B F1 (rngL n lo) := fun i H F gB gF sub => by
  rw [rng_len]
  refine ⟨fun hi => hi, fun hi => Nat.le_of_eq hi.symm, fun v H' d hd hy => ?_⟩
  obtain ⟨rfl, rfl⟩ := hy
  rw [rng_get hd]
  exact ⟨F, Ext.refl sub, .int _⟩
theorem RepK.get : ∀ {kvs : List (L2.Key × V)} {ds : List (D × D)} {i : Nat} {kd : D × D}, RepK K F1 kvs ds → ds[i]? = some kd → ∃ k v, kvs[i]? = some (k, v) ∧ kd.1 = keyD k ∧ Rep K F1 (kV k) kd.1 ∧ Rep K F1 v kd.2
  | _, _, _, _, .nil, h => by simp at h
  | _, _, 0, _, .cons a b r, h => by simp at h; subst h; exact ⟨_, _, rfl, rfl, a, b⟩
  | _, _, i + 1, _, .cons a b r, h => by
    obtain ⟨k, v, h1, h2⟩ := RepK.get (i := i) r (by simpa using h)
    exact ⟨k, v, by simpa using h1, h2⟩
theorem RepK.length : ∀ {kvs : List (L2.Key × V)} {ds : List (D × D)}, RepK K F1 kvs ds → kvs.length = ds.length
  | _, _, .nil => rfl
  | _, _, .cons _ _ r => congrArg (· + 1) (RepK.length r)
theorem yld_keys {a : Addr} {o : Obj} {kvs : List (L2.Key × V)} {ds : List (D × D)} (hs : B a = some (.frz o (.dK kvs))) (r : RepK K F1 kvs ds) : Yld K (Itk a o kvs) B F1 (ds.map (·.1)) := fun i H F gB gF sub => by
  rw [List.length_map, ← r.length]
  refine ⟨fun hi => ⟨gB _ _ hs, hi⟩, fun hi => ⟨gB _ _ hs, Nat.le_of_eq hi.symm⟩, fun v H' d hd hy => ?_⟩
  obtain ⟨rfl, k, w, e, rfl⟩ := hy
  rw [List.getElem?_map] at hd
  obtain ⟨kd, h1, h2⟩ := Option.map_eq_some_iff.mp hd
  subst h2
  obtain ⟨k', v', e', _, rk, _⟩ := r.get h1
  rw [e] at e'
  cases e'
  exact ⟨F, Ext.refl sub, rk.mono gF⟩
theorem yld_items {a : Addr} {o : Obj} {kvs : List (L2.Key × V)} {ds : List (D × D)} (hs : B a = some (.frz o (.dK kvs))) (r : RepK K F1 kvs ds) : Yld K (Iti a o kvs) B F1 (ds.map fun kv => .tuple [kv.1, kv.2]) := fun i H F gB gF sub => by
  rw [List.length_map, ← r.length]
  refine ⟨fun hi => ⟨gB _ _ hs, hi⟩, fun hi => ⟨gB _ _ hs, Nat.le_of_eq hi.symm⟩, fun v H' d hd hy => ?_⟩
  obtain ⟨T, k, w, e, rfl, hT, rfl⟩ := hy
  rw [List.getElem?_map] at hd
  obtain ⟨kd, h1, h2⟩ := Option.map_eq_some_iff.mp hd
  subst h2
  obtain ⟨k', v', e', _, rk, rv⟩ := r.get h1
  rw [e] at e'
  cases e'
  exact ⟨_, Ext.laid sub _ hT, .tup upd_same (.cons (rk.mono (gF.trans (same_upd (sub.free hT)))) (.cons (rv.mono (gF.trans (same_upd (sub.free hT)))) .nil))⟩
theorem num_get : ∀ {ds : List D} {n i : Nat} {d : D}, (numFrom n ds)[i]? = some d → ∃ e, ds[i]? = some e ∧ d = .tuple [.int ((n + i : Nat) : Int), e]
  | [], _, _, _, h => by simp [numFrom] at h
  | e :: ds, n, 0, d, h => by
    simp [numFrom] at h
    exact ⟨e, rfl, by rw [← h]; rfl⟩
  | e :: ds, n, i + 1, d, h => by
    obtain ⟨e', h1, h2⟩ := num_get (ds := ds) (n := n + 1) (i := i) (d := d) (by simpa [numFrom] using h)
    refine ⟨e', by simpa using h1, ?_⟩
    rw [h2, show n + 1 + i = n + (i + 1) by omega]
theorem num_len : ∀ (ds : List D) (n : Nat), (numFrom n ds).length = ds.length
  | [], _ => rfl
  | _ :: ds, n => congrArg (· + 1) (num_len ds (n + 1))
theorem yld_enumL {a : Addr} {xs : List V} {ds : List D} (hs : SqL K B a xs) (r : Reps K F1 xs ds) : Yld K (Ite K a) B F1 (numFrom 0 ds) := fun i H F gB gF sub => by
  have hs' := gB.seq hs
  rw [num_len]
  refine ⟨fun hi => ?_, fun hi => ⟨xs, hs', by rw [r.length]; omega⟩, fun x H' d hd hy => ?_⟩
  · have hx : i < xs.length := by rw [r.length]; exact hi
    exact ⟨xs, xs[i], hs', by simp [hx]⟩
  · obtain ⟨T, y, rfl, hT, rfl, hx⟩ := hy
    obtain ⟨e, he, rfl⟩ := num_get hd
    obtain ⟨x', e', r'⟩ := r.get he
    have := hx xs hs'
    rw [e'] at this
    cases this
    refine ⟨_, Ext.laid sub _ hT, .tup upd_same (.cons ?_ (.cons (r'.mono (gF.trans (same_upd (sub.free hT)))) .nil))⟩
    rw [Nat.zero_add]; exact .int _
theorem zip_get : ∀ {xs ys : List D} {i : Nat} {d : D}, (zipL xs ys)[i]? = some d → ∃ x y, xs[i]? = some x ∧ ys[i]? = some y ∧ d = .tuple [x, y]
  | [], _, _, _, h => by simp [zipL] at h
  | _ :: _, [], _, _, h => by simp [zipL] at h
  | x :: xs, y :: ys, 0, d, h => by
    simp [zipL] at h
    exact ⟨x, y, rfl, rfl, h.symm⟩
  | x :: xs, y :: ys, i + 1, d, h => by
    obtain ⟨x', y', h1, h2, h3⟩ := zip_get (xs := xs) (ys := ys) (i := i) (d := d) (by simpa [zipL] using h)
    exact ⟨x', y', by simpa using h1, by simpa using h2, h3⟩
theorem zip_len : ∀ (xs ys : List D), (zipL xs ys).length = min xs.length ys.length
  | [], _ => by simp [zipL]
  | _ :: _, [] => by simp [zipL]
  | x :: xs, y :: ys => by
    show (zipL xs ys).length + 1 = _
    rw [zip_len xs ys, List.length_cons, List.length_cons]
    omega
theorem yld_zipL {a b : Addr} {xs ys : List V} {ds es : List D} (hs : SqL K B a xs) (hs2 : SqL K B b ys) (r : Reps K F1 xs ds) (r2 : Reps K F1 ys es) : Yld K (Itz K a b) B F1 (zipL ds es) := fun i H F gB gF sub => by
  have hs' := gB.seq hs
  have hs2' := gB.seq hs2
  rw [zip_len]
  have l1 := r.length
  have l2 := r2.length
  refine ⟨fun hi => ?_, fun hi => ⟨xs, ys, hs', hs2', by omega⟩, fun x H' d hd hy => ?_⟩
  · have hx : i < xs.length := by omega
    have hy : i < ys.length := by omega
    exact ⟨xs, ys, xs[i], ys[i], hs', hs2', by simp [hx], by simp [hy]⟩
  · obtain ⟨T, u, w, rfl, hT, rfl, hx, hy⟩ := hy
    obtain ⟨d1, d2, e1, e2, rfl⟩ := zip_get hd
    obtain ⟨u', q1, r1'⟩ := r.get e1
    obtain ⟨w', q2, r2'⟩ := r2.get e2
    have h1 := hx xs hs'
    have h2 := hy ys hs2'
    rw [q1] at h1
    rw [q2] at h2
    cases h1; cases h2
    exact ⟨_, Ext.laid sub _ hT, .tup upd_same (.cons (r1'.mono (gF.trans (same_upd (sub.free hT)))) (.cons (r2'.mono (gF.trans (same_upd (sub.free hT)))) .nil))⟩
theorem yld_zipT {a b : Addr} {xs ys : List V} {ds es : List D} (hs : B a = some (.tup xs)) (hs2 : B b = some (.tup ys)) (r : Reps K F1 xs ds) (r2 : Reps K F1 ys es) : Yld K (RZ.ItzT K a b) B F1 (zipL ds es) := fun i H F gB gF sub => by
  have hs' : SqT K H a xs := .of (gB _ _ hs)
  have hs2' : SqT K H b ys := .of (gB _ _ hs2)
  rw [zip_len]
  have l1 := r.length
  have l2 := r2.length
  refine ⟨fun hi => ?_, fun hi => ⟨xs, ys, hs', hs2', by omega⟩, fun x H' d hd hy => ?_⟩
  · have hx : i < xs.length := by omega
    have hy : i < ys.length := by omega
    exact ⟨xs, ys, xs[i], ys[i], hs', hs2', by simp [hx], by simp [hy]⟩
  · obtain ⟨T, u, w, rfl, hT, rfl, hx, hy⟩ := hy
    obtain ⟨d1, d2, e1, e2, rfl⟩ := zip_get hd
    obtain ⟨u', q1, r1'⟩ := r.get e1
    obtain ⟨w', q2, r2'⟩ := r2.get e2
    have h1 := hx xs hs'
    have h2 := hy ys hs2'
    rw [q1] at h1
    rw [q2] at h2
    cases h1; cases h2
    exact ⟨_, Ext.laid sub _ hT, .tup upd_same (.cons (r1'.mono (gF.trans (same_upd (sub.free hT)))) (.cons (r2'.mono (gF.trans (same_upd (sub.free hT)))) .nil))⟩
end
section
variable {X : Cx} {tg e a b : Expr} {f g : F1} {pos p : Pos}
/-- a value that is walked: a list, a tuple, a text, a dict's keys -/
theorem i_seq (h : PX X e f) : IX X tg e false (sSeq f) := piImp (piOr (piOr (pi_list h) (pi_tup h)) (piOr (pi_str h) (pi_keys h))) fun σ H R ⟨H0, F0, F, ρ, ds, S, hd, q⟩ => by
  unfold sSeq at hd
  split at hd
  · rename_i e
    cases hd
    refine .inl (.inl ⟨H0, F0, F, ρ, _, S, e, fun H1 F1 v e1 r1 => ?_⟩)
    cases r1 with
    | lst hs r => exact ⟨_, rfl, ⟨_, e1.sub.seq hs⟩, q H1 F1 _ e1 (yld_list hs r)⟩
  · rename_i e
    cases hd
    refine .inl (.inr ⟨H0, F0, F, ρ, _, S, e, fun H1 F1 v e1 r1 => ?_⟩)
    cases r1 with
    | tup hs r => exact ⟨_, rfl, ⟨_, .of (e1.sub _ _ hs)⟩, q H1 F1 _ e1 (yld_tup hs r)⟩
  · rename_i e
    cases hd
    refine .inr (.inl ⟨H0, F0, F, ρ, _, S, e, fun H1 F1 v e1 r1 => ?_⟩)
    obtain ⟨h1, ok⟩ := RepB.str (H := H1) (.inl r1)
    exact ⟨_, h1, q H1 F1 _ e1 (yld_str ok)⟩
  · rename_i e
    split at hd
    · rename_i nt
      cases hd
      refine .inr (.inr ⟨H0, F0, F, ρ, _, S, e, fun H1 F1 v e1 r1 => ?_⟩)
      cases r1 with
      | dK hs r => exact ⟨_, _, rfl, .inl ⟨_, e1.sub _ _ hs, q H1 F1 _ e1 (yld_keys hs r)⟩⟩
      | dT hs r => exact absurd (show false = true from nt) Bool.false_ne_true
    · cases hd
  · cases hd
/-- the same, the list may be one that a slot alone holds -/
def sSeqB (a : F1) : FA := fun ρ => match a ρ with
  | some (.list ds) => some ds
  | some (.tuple ds) => some ds
  | some (.str x) => some (x.cps.toList.map fun c => .str ⟨#[c]⟩)
  | _ => none
theorem i_seqB (h : PB X e f) : IX X tg e true (sSeqB f) := piImp (piOr (piOr (pi_list h) (pi_tup h)) (pi_str h)) fun σ H R ⟨H0, F0, F, ρ, ds, S, hd, q⟩ => by
  unfold sSeqB at hd
  split at hd
  · rename_i e
    cases hd
    refine .inl (.inl ⟨H0, F0, F, ρ, _, S, e, fun H1 F1 v e1 r1 => ?_⟩)
    obtain ⟨a, xs, rfl, hs, r⟩ := r1.list e1.sub
    exact ⟨_, rfl, ⟨_, hs⟩, q H1 F1 _ e1 (yld_list hs r)⟩
  · rename_i e
    cases hd
    refine .inl (.inr ⟨H0, F0, F, ρ, _, S, e, fun H1 F1 v e1 r1 => ?_⟩)
    obtain ⟨a, xs, rfl, hf, hs, r⟩ := r1.tuple e1.sub
    exact ⟨_, rfl, ⟨_, hs⟩, q H1 F1 _ e1 (yld_tup (e1.sub _ _ hf) r)⟩
  · rename_i e
    cases hd
    refine .inr ⟨H0, F0, F, ρ, _, S, e, fun H1 F1 v e1 r1 => ?_⟩
    obtain ⟨h1, ok⟩ := r1.str
    exact ⟨_, h1, q H1 F1 _ e1 (yld_str ok)⟩
  · cases hd
/-- a source that a comprehension walks -/
theorem IX.br {src : FA} (h : IX X tg e false src) : IX X tg e true src := piImp h fun σ H R ⟨H0, F0, F, ρ, ds, S, hd, q⟩ => ⟨H0, F0, F, ρ, ds, S, hd, fun H' F' J x y => q H' F' J x fun i H2 F2 gB gF sub => y i H2 F2 (gF.trans sub) gF sub⟩
theorem smallI_of {i : Int} (h : smallI i = true) : -(2 ^ 62) ≤ i ∧ i < 2 ^ 62 := by
  unfold smallI at h
  simp only [Bool.and_eq_true, decide_eq_true_eq] at h
  omega
theorem i_rng (hg : Gl X "range") (hm : X.mg "range" = none) (ha : PX X a f) (h1 : starEach [a] X.env = (false, eval a X.env) :: starEach [] X.env := by rfl) (hs : starEach [a] X.env = [(false, eval a X.env)] := by rfl) : IX X tg (.Call (.Name "range" p) [a] [] pos) false (sRng f) :=
  piImp (pi_range1 hg hm (pa_cons ha pa_nil h1) hs) fun σ H R ⟨H0, F0, F, ρ, ds, S, hd, q⟩ => by
  unfold sRng at hd
  split at hd
  · rename_i j e
    split at hd
    · rename_i hc
      cases hd
      refine ⟨H0, F0, F, ρ, _, S, e, fun H1 F1 v e1 r1 => ?_⟩
      cases r1
      obtain ⟨c1, c2⟩ := smallI_of hc
      exact ⟨j, rfl, c1, c2, q H1 F1 _ e1 yld_rng⟩
    · cases hd
  · cases hd
theorem i_rng2 (hg : Gl X "range") (hm : X.mg "range" = none) (ha : PX X a f) (hb : PX X b g) (h1 : starEach [a, b] X.env = (false, eval a X.env) :: starEach [b] X.env := by rfl) (h2 : starEach [b] X.env = (false, eval b X.env) :: starEach [] X.env := by rfl)
    (hs : starEach [a, b] X.env = [(false, eval a X.env), (false, eval b X.env)] := by rfl) (hs2 : starEach [b] X.env = [(false, eval b X.env)] := by rfl) : IX X tg (.Call (.Name "range" p) [a, b] [] pos) false (sRng2 f g) :=
  piImp (pi_range2 hg hm (pa_cons ha (pa_cons hb pa_nil h2) h1) hs hs2) fun σ H R ⟨H0, F0, F, ρ, ds, S, hd, q⟩ => by
  unfold sRng2 at hd
  split at hd
  · rename_i i j e e'
    split at hd
    · rename_i hc
      cases hd
      rw [Bool.and_eq_true] at hc
      refine ⟨H0, F0, F, ρ, _, S, e, fun H1 F1 v e1 r1 => ⟨H0, F0, F1, ρ, _, S.ext e1, e', fun H2 F2 w e2 r2 => ?_⟩⟩
      cases r1
      cases r2
      obtain ⟨c1, c2⟩ := smallI_of hc.1
      obtain ⟨c3, c4⟩ := smallI_of hc.2
      exact ⟨i, j, rfl, ⟨c1, c2, c3, c4⟩, q H2 F2 _ (e1.trans e2) yld_rng⟩
    · cases hd
  · cases hd
theorem i_items {elts : List Expr} {kk : Nat} {tpos apos cpos : Pos} (h : PX X e f) (hbase : attributeBase e "items" X.env (eval e X.env) = eval e X.env := by rfl) (hline : (apos.endLine == cpos.line) = true := by rfl) :
    IX X (.Tuple elts kk tpos) (.Call (.Attribute e "items" apos) [] [] cpos) false (sItems f) := piImp (pi_items h hbase hline) fun σ H R ⟨H0, F0, F, ρ, ds, S, hd, q⟩ => by
  unfold sItems at hd
  split at hd
  · rename_i e
    split at hd
    · rename_i nt
      cases hd
      refine ⟨H0, F0, F, ρ, _, S, e, fun H1 F1 v e1 r1 => ?_⟩
      cases r1 with
      | dK hs r => exact ⟨_, _, _, rfl, e1.sub _ _ hs, q H1 F1 _ e1 (yld_items hs r)⟩
      | dT hs r => exact absurd (show false = true from nt) Bool.false_ne_true
    · cases hd
  · cases hd
/-- enumerate(a list) -/
def sEnumL (a : F1) : FA := fun ρ => match a ρ with
  | some (.list ds) => some (numFrom 0 ds)
  | _ => none
theorem i_enumL {elts : List Expr} {kk : Nat} {tpos : Pos} (hg : Gl X "enumerate") (hm : X.mg "enumerate" = none) (ha : PX X a f) (h1 : starEach [a] X.env = (false, eval a X.env) :: starEach [] X.env := by rfl) (hs : starEach [a] X.env = [(false, eval a X.env)] := by rfl) :
    IX X (.Tuple elts kk tpos) (.Call (.Name "enumerate" p) [a] [] pos) false (sEnumL f) := piImp (pi_enum hg hm (pa_cons ha pa_nil h1) hs) fun σ H R ⟨H0, F0, F, ρ, ds, S, hd, q⟩ => by
  unfold sEnumL at hd
  split at hd
  · rename_i e
    cases hd
    refine ⟨H0, F0, F, ρ, _, S, e, fun H1 F1 v e1 r1 => ?_⟩
    cases r1 with
    | lst hs r => exact ⟨_, _, rfl, e1.sub.seq hs, q H1 F1 _ e1 (yld_enumL hs r)⟩
  · cases hd
end
end Pu
set_option maxRecDepth 100000
/-! Comprehensions; a def's body keeps its promise. -/
namespace Pu
open PySem PySem.Spec PyProof.Rows L2

section
variable {K : PySem.W.Frag} {H0 F0 H F : Hp} {σ : L2.St} {ρ : Rho}
/-- an object that no slot knows is laid or changed -/
theorem St.aside (S : St K H0 F0 H F σ ρ) {p : Addr} {o : HO} (fp : F p = none) (h0 : H0 p = none) (no : Apart σ ρ p) : St K H0 F0 (upd H p o) F σ ρ := by
  refine ⟨fun b u q => ?_, S.f, fun b u q => ?_, S.new, S.len, fun j s x h1 h2 => ?_, S.dj⟩
  · rw [upd_ne (ne_of_none q h0)]; exact S.h _ _ q
  · rw [upd_ne (ne_of_none q fp)]; exact S.sub _ _ q
  · have q := S.sl j s x h1 h2
    cases s with
    | no => trivial
    | val d => exact q
    | bor d => exact q
    | own d =>
      obtain ⟨a, u, e1, f1, h1', hq, r'⟩ := q
      refine ⟨a, u, e1, f1, h1', ?_, r'⟩
      rw [upd_ne]
      · exact hq
      · intro z
        subst z
        exact no j d h1 (by rw [h2, e1])
end

section
variable {X : Cx} {elt tg iter : Expr} {ifs : List Expr} {scope : Scope} {own : List (Str × Nat)} {pos : Pos} {g : TG} {tf : TgF} {src : FA} {t : FB} {f : F1}
abbrev PIf (X : Cx) (ifs : List Expr) (t : FB) : Prop := PTs X ifs (tTs X.K t)
theorem if_nil : PIf X [] tYes := ⟨fun pins s σ H Q I ⟨H0, F0, F, ρ, b, S, hd, q⟩ => pts_nil.run pins s σ H Q I (by cases hd; exact q H F (Ext.refl S.sub))⟩
theorem if_one {c : Expr} (h : PTs' X c t) : PIf X [c] t := pts_one h
theorem compL_step {e : F1} {ρ : Rho} {d : D} {ds : List D} {r : List D} (h : compL tf t e ρ (d :: ds) = some r) :
    ∃ ρ1 b, tf d ρ = some ρ1 ∧ t ρ1 = some b ∧ ((b = true ∧ ∃ y r', e ρ1 = some y ∧ compL tf t e ρ ds = some r' ∧ r = y :: r') ∨ (b = false ∧ compL tf t e ρ ds = some r)) := by
  obtain ⟨ρ1, h1, h2⟩ := Option.bind_eq_some_iff.mp h
  obtain ⟨b, h3, h4⟩ := Option.bind_eq_some_iff.mp h2
  refine ⟨ρ1, b, h1, h3, ?_⟩
  cases b with
  | true =>
    rw [if_pos rfl] at h4
    obtain ⟨y, h5, h6⟩ := Option.bind_eq_some_iff.mp h4
    obtain ⟨r', h7, h8⟩ := Option.bind_eq_some_iff.mp h6
    exact .inl ⟨rfl, y, r', h5, h7, (Option.some.inj h8).symm⟩
  | false => exact .inr ⟨rfl, by simpa using h4⟩
/-- what a comprehension's state says: acc made so far, rest still to come -/
structure CSt (K : PySem.W.Frag) (H0 F0 H1 F1 : Hp) (σ : L2.St) (ρ : Rho) (Dd : Addr) (full rest : List D) (H F : Hp) (acc : List V) (accD : List D) : Prop where
  st : St K H0 F0 H F σ ρ
  h : Same H1 H
  f : Same F1 F
  fd : F Dd = none
  hd : H Dd = some (.lst acc)
  rep : Reps K F acc accD
  eq : full = accD ++ rest
  nw : ∀ a o, F a = some o → F1 a = some o ∨ H1 a = none
theorem CSt.ext {K : PySem.W.Frag} {H0 F0 H1 F1 H F H' F' : Hp} {σ : L2.St} {ρ : Rho} {Dd : Addr} {full rest : List D} {acc : List V} {accD : List D} (C : CSt K H0 F0 H1 F1 σ ρ Dd full rest H F acc accD) (e : Ext H F H' F') : CSt K H0 F0 H1 F1 σ ρ Dd full rest H' F' acc accD := by
  refine ⟨C.st.ext e, C.h.trans e.h, C.f.trans e.f, ?_, e.h _ _ C.hd, C.rep.mono e.f, C.eq, fun a o q => ?_⟩
  case refine_2 =>
    rcases e.new a o q with q | q
    · exact C.nw a o q
    · exact .inr (C.h.free q)
  cases z : F' Dd with
  | none => rfl
  | some u =>
    rcases e.new Dd u z with q | q
    · rw [C.fd] at q; cases q
    · rw [C.hd] at q; cases q
theorem CSt.push {K : PySem.W.Frag} {H0 F0 H1 F1 H F : Hp} {σ : L2.St} {ρ : Rho} {Dd : Addr} {full rest : List D} {acc : List V} {accD : List D} {y : V} {d : D} (C : CSt K H0 F0 H1 F1 σ ρ Dd full (d :: rest) H F acc accD) (h1 : H1 Dd = none) (h0 : H0 Dd = none) (no : Apart σ ρ Dd) (r : Rep K F y d) :
    CSt K H0 F0 H1 F1 σ ρ Dd full rest (upd H Dd (.lst (acc ++ [y]))) F (acc ++ [y]) (accD ++ [d]) := by
  refine ⟨C.st.aside C.fd h0 no, fun b u q => ?_, C.f, C.fd, upd_same, C.rep.snoc r, ?_, C.nw⟩
  · rw [upd_ne (ne_of_none q h1)]; exact C.h _ _ q
  · rw [C.eq, List.append_assoc]; rfl
theorem wipe_comm (σ : L2.St) (i : Nat) : ∀ vs : List Nat, L2.wipe (σ.set i none) vs = (L2.wipe σ vs).set i none
  | [] => rfl
  | v :: vs => by
    unfold L2.wipe
    rw [wipe_comm σ i vs]
    by_cases e : i = v
    · subst e; rfl
    · exact List.set_comm _ _ e
theorem wipe_twice (σ : L2.St) : ∀ vs : List Nat, L2.wipe (L2.wipe σ vs) vs = L2.wipe σ vs
  | [] => rfl
  | v :: vs => by
    show (L2.wipe ((L2.wipe σ vs).set v none) vs).set v none = (L2.wipe σ vs).set v none
    rw [wipe_comm, wipe_twice σ vs, List.set_set]
theorem lc_go {K : PySem.W.Frag} {vs : List Nat} (htg : TgOk K vs g tf) : ∀ σ H Q, tF K (fLc vs src tf t f) σ H Q → tLc (tI K true src) g (tTs K t) (tX K f) vs σ H Q := fun σ H Q ⟨H0, F0, F, ρ, d, S, hd, q⟩ => by
  obtain ⟨ds, h1, h2⟩ := Option.bind_eq_some_iff.mp hd
  obtain ⟨r, h3, h4⟩ := Option.bind_eq_some_iff.mp h2
  split at h4
  case isFalse => cases h4
  rename_i hz
  cases h4
  have hz : r.length ≤ sizeLine := of_decide_eq_true hz
  refine ⟨H0, F0, F, ρ, ds, S, h1, fun H1 F1 J e1 y Dd hD => ?_⟩
  have y : Yld K J H1 F1 ds := y
  have S1 := S.ext e1
  have h0 : H0 Dd = none := S.h.free (e1.h.free hD)
  have no : Apart σ ρ Dd := S1.noOwn hD
  have C0 : CSt K H0 F0 H1 F1 σ ρ Dd r r (upd H1 Dd (.lst [])) F1 [] [] := ⟨S1.aside (e1.sub.free hD) h0 no, same_upd hD, Same.refl _, e1.sub.free hD, upd_same, .nil, rfl, fun _ _ z => .inl z⟩
  refine ⟨fun i m H => m = ds.length - i ∧ i ≤ ds.length ∧ ∃ rest F acc accD, CSt K H0 F0 H1 F1 σ ρ Dd r rest H F acc accD ∧ compL tf t f (wipeR ρ vs) (ds.drop i) = some rest, ⟨ds.length, by simp, Nat.zero_le _, r, F1, [], [], C0, by simpa using h3⟩, ?_⟩
  rintro i m H ⟨rfl, hi', rest, F2, acc, accD, C, hr⟩
  obtain ⟨y1, y2, y3⟩ := y i H F2 C.h C.f C.st.sub
  by_cases hlt : i < ds.length
  · have hdr : ds.drop i = ds[i] :: ds.drop (i + 1) := List.drop_eq_getElem_cons hlt
    rw [hdr] at hr
    obtain ⟨ρ1, b, g1, g2, g3⟩ := compL_step hr
    refine .inr ⟨y1 hlt, fun H => ∃ rest F acc accD, CSt K H0 F0 H1 F1 σ ρ Dd r rest H F acc accD ∧ compL tf t f (wipeR ρ vs) (ds.drop (i + 1)) = some rest, fun H' w => ⟨_, by omega, rfl, hlt, w⟩, fun x H' yy => ?_⟩
    obtain ⟨F3, e3, r3⟩ := y3 x H' ds[i] (by simp [hlt]) yy
    have C3 := C.ext e3
    refine htg.run H0 F0 F3 H' _ _ ρ1 x _ _ (C3.st.wipe _) r3 g1 fun σ2 S2 hw _ => ⟨by rw [hw]; exact wipe_twice _ _, ?_⟩
    refine ⟨H0, F0, F3, ρ1, b, S2, g2, fun H4 F4 e4 => ?_⟩
    rcases g3 with ⟨rfl, z, rest', g4, g5, rfl⟩ | ⟨rfl, g5⟩
    · rw [if_pos rfl]
      refine ⟨H0, F0, F4, ρ1, z, S2.ext e4, g4, fun H5 F5 v e5 r5 => ?_⟩
      have C5 := (C3.ext e4).ext e5
      refine ⟨acc, C5.hd, ?_, rest', F5, _, _, C5.push hD h0 no r5, g5⟩
      have hl := C5.rep.length
      have he := congrArg List.length C5.eq
      rw [List.length_append, List.length_cons] at he
      omega
    · rw [if_neg Bool.false_ne_true]
      exact ⟨rest, F4, acc, accD, C3.ext e4, g5⟩
  · have e : ds.drop i = [] := List.drop_eq_nil_of_le (by omega)
    rw [e] at hr
    cases hr
    refine .inl ⟨y2 (by omega), q H F2 Dd (.lst acc) ⟨e1.h.trans C.h, e1.f.trans C.f, C.st.sub, fun a o h => ?_⟩ C.fd (e1.h.free hD) C.hd ?_⟩
    · rcases C.nw a o h with h | h
      · exact e1.new a o h
      · exact .inr (e1.h.free h)
    · have : r = accD := by rw [C.eq, List.append_nil]
      rw [this]; exact C.rep
theorem f_lc (hc : X.calm = true) (hN : X.N.Nodup) (hi : IX X tg iter true src) (ok : BlkOk X.N X.env.scope scope own)
    (hg : ∀ (s : Shared) (H : Hp) (C : Addr) (cl : List (Str × Addr)) (fp : List Addr), PG (X.blk s H scope (compEnvC scope cl C X.env) fp) tg g) (htg : TgOk X.K (own.map (·.2)) g tf)
    (ht : ∀ (s : Shared) (H : Hp) (C : Addr) (cl : List (Str × Addr)) (fp : List Addr), PIf (X.blk s H scope (compEnvC scope cl C X.env) fp) ifs t)
    (he : ∀ (s : Shared) (H : Hp) (C : Addr) (cl : List (Str × Addr)) (fp : List Addr), PX (X.blk s H scope (compEnvC scope cl C X.env) fp) elt f) (hs : ∀ x, foldedSetIterable iter X.env x = pure x := by intro _; rfl) :
    PF X (.ListComp elt [⟨tg, iter, ifs, 0⟩] scope pos) (fLc (own.map (·.2)) src tf t f) := peImp (pe_lc (tt := tTs X.K t) (te := tX X.K f) hc hN hi ok hg ht he hs) (lc_go htg)
/-- a new list of a slot's own may stand as a value -/
theorem toF {K : PySem.W.Frag} {f : F1} (hl : ∀ ρ d, f ρ = some d → ∃ ds, d = .list ds) : ∀ σ H Q, tX K f σ H Q → tF K f σ H Q := fun σ H Q ⟨H0, F0, F, ρ, d, S, hd, q⟩ => by
  obtain ⟨ds, rfl⟩ := hl ρ d hd
  refine ⟨H0, F0, F, ρ, _, S, hd, fun H' F' p o e fp hp h1 r => ?_⟩
  unfold RepO at r
  split at r
  · rename_i xs ds' e'
    cases e'
    obtain ⟨g1, g2⟩ := Ext.frz e.sub h1 fp
    refine q H' (upd F' p (.lst xs)) _ ⟨e.h, e.f.trans g1, g2, fun a u z => ?_⟩ (.lst (.inl (.inl upd_same)) (r.mono g1))
    by_cases ea : a = p
    · subst ea; exact .inr hp
    · rw [upd_ne ea] at z; exact e.new _ _ z
  · rename_i z; cases z
  · rename_i z; cases z
  · exact r.elim
theorem fLc_list {vs : List Nat} : ∀ ρ d, fLc vs src tf t f ρ = some d → ∃ ds, d = .list ds := fun ρ d h => by
  obtain ⟨ds, _, h2⟩ := Option.bind_eq_some_iff.mp h
  obtain ⟨r, _, h4⟩ := Option.bind_eq_some_iff.mp h2
  split at h4
  · cases h4; exact ⟨_, rfl⟩
  · cases h4
/-- y = [.. for ..], y a plain local name -/
theorem s_ownLc {fr : Bool} {i : Nat} {y : Str} {py spos : Pos} (hc : X.calm = true) (hN : X.N.Nodup) (hy : X.N[i]? = some y) (hyl : X.env.scope.names.lookup y = some .local)
    (hsw : swapsWith (.ListComp elt [⟨tg, iter, ifs, 0⟩] scope pos) (some (.Name y py)) spos.line X.env = pure true) (hi : IX X tg iter true src) (ok : BlkOk X.N X.env.scope scope own)
    (hg : ∀ (s : Shared) (H : Hp) (C : Addr) (cl : List (Str × Addr)) (fp : List Addr), PG (X.blk s H scope (compEnvC scope cl C X.env) fp) tg g) (htg : TgOk X.K (own.map (·.2)) g tf)
    (ht : ∀ (s : Shared) (H : Hp) (C : Addr) (cl : List (Str × Addr)) (fp : List Addr), PIf (X.blk s H scope (compEnvC scope cl C X.env) fp) ifs t)
    (he : ∀ (s : Shared) (H : Hp) (C : Addr) (cl : List (Str × Addr)) (fp : List Addr), PX (X.blk s H scope (compEnvC scope cl C X.env) fp) elt f) (hs : ∀ x, foldedSetIterable iter X.env x = pure x := by intro _; rfl) :
    SX X fr (.Assign [.Name y py] (.ListComp elt [⟨tg, iter, ifs, 0⟩] scope pos) spos) (gOwn i (fLc (own.map (·.2)) src tf t f)) := psImp (ps_setLc (tt := tTs X.K t) (te := tX X.K f) hc hN hy hyl hsw hi ok hg ht he hs) fun E σ H ⟨H0, F0, F, ρ, o, S, hd, q⟩ => by
  obtain ⟨d, h1, rfl⟩ := Option.map_eq_some_iff.mp hd
  exact lc_go htg σ H _ ⟨H0, F0, F, ρ, d, S, h1, fun H1 F1 p o e1 f1 hp h1 r1 => q _ H1 F1 ((S.ext e1).putOwn i f1 (S.h.free hp) h1 r1 (S.noOwn hp)) e1.f⟩
theorem s_setLc {fr : Bool} {i : Nat} {y : Str} {py spos : Pos} (hc : X.calm = true) (hN : X.N.Nodup) (hy : X.N[i]? = some y) (hyl : X.env.scope.names.lookup y = some .local)
    (hsw : swapsWith (.ListComp elt [⟨tg, iter, ifs, 0⟩] scope pos) (some (.Name y py)) spos.line X.env = pure true) (hi : IX X tg iter true src) (ok : BlkOk X.N X.env.scope scope own)
    (hg : ∀ (s : Shared) (H : Hp) (C : Addr) (cl : List (Str × Addr)) (fp : List Addr), PG (X.blk s H scope (compEnvC scope cl C X.env) fp) tg g) (htg : TgOk X.K (own.map (·.2)) g tf)
    (ht : ∀ (s : Shared) (H : Hp) (C : Addr) (cl : List (Str × Addr)) (fp : List Addr), PIf (X.blk s H scope (compEnvC scope cl C X.env) fp) ifs t)
    (he : ∀ (s : Shared) (H : Hp) (C : Addr) (cl : List (Str × Addr)) (fp : List Addr), PX (X.blk s H scope (compEnvC scope cl C X.env) fp) elt f) (hs : ∀ x, foldedSetIterable iter X.env x = pure x := by intro _; rfl) :
    SX X fr (.Assign [.Name y py] (.ListComp elt [⟨tg, iter, ifs, 0⟩] scope pos) spos) (gSet i (fLc (own.map (·.2)) src tf t f)) := psImp (ps_setLc (tt := tTs X.K t) (te := tX X.K f) hc hN hy hyl hsw hi ok hg ht he hs) fun E σ H ⟨H0, F0, F, ρ, o, S, hd, q⟩ => by
  obtain ⟨d, h1, rfl⟩ := Option.map_eq_some_iff.mp hd
  exact lc_go htg σ H _ (toF fLc_list σ H _ ⟨H0, F0, F, ρ, d, S, h1, fun H1 F1 v e1 r1 => q _ H1 F1 ((S.ext e1).set i r1) e1.f⟩)
theorem x_lc (hc : X.calm = true) (hN : X.N.Nodup) (hi : IX X tg iter true src) (ok : BlkOk X.N X.env.scope scope own)
    (hg : ∀ (s : Shared) (H : Hp) (C : Addr) (cl : List (Str × Addr)) (fp : List Addr), PG (X.blk s H scope (compEnvC scope cl C X.env) fp) tg g) (htg : TgOk X.K (own.map (·.2)) g tf)
    (ht : ∀ (s : Shared) (H : Hp) (C : Addr) (cl : List (Str × Addr)) (fp : List Addr), PIf (X.blk s H scope (compEnvC scope cl C X.env) fp) ifs t)
    (he : ∀ (s : Shared) (H : Hp) (C : Addr) (cl : List (Str × Addr)) (fp : List Addr), PX (X.blk s H scope (compEnvC scope cl C X.env) fp) elt f) (hs : ∀ x, foldedSetIterable iter X.env x = pure x := by intro _; rfl) :
    PX X (.ListComp elt [⟨tg, iter, ifs, 0⟩] scope pos) (fLc (own.map (·.2)) src tf t f) := (f_lc hc hN hi ok hg htg ht he hs).toX
end

/-! ### a def's body -/
theorem slots_len : ∀ {ms : List Bool} {ds : List D}, ms.length = ds.length → (slots ms ds).length = ds.length
  | [], [], _ => rfl
  | true :: ms, d :: ds, h => congrArg (· + 1) (slots_len (ms := ms) (ds := ds) (by simpa using h))
  | false :: ms, d :: ds, h => congrArg (· + 1) (slots_len (ms := ms) (ds := ds) (by simpa using h))
theorem slots_ok {K : PySem.W.Frag} {H F : Hp} : ∀ {ms : List Bool} {vs : List V} {ds : List D}, RepsM K H F ms vs ds → ∀ (i : Nat) (s : Slot) (x : V), (slots ms ds)[i]? = some s → vs[i]? = some x → SlotOk K H H F s (some x)
  | _, _, _, .nil, i, s, x, h, _ => by simp [slots] at h
  | _, _, _, .val r rr, 0, s, x, h, h' => by
    simp [slots] at h h'
    subst h h'
    exact ⟨_, rfl, r⟩
  | _, _, _, .bor r rr, 0, s, x, h, h' => by
    simp [slots] at h h'
    subst h h'
    exact ⟨_, rfl, r⟩
  | _, _, _, .val r rr, i + 1, s, x, h, h' => slots_ok rr i s x (by simpa [slots] using h) (by simpa using h')
  | _, _, _, .bor r rr, i + 1, s, x, h, h' => slots_ok rr i s x (by simpa [slots] using h) (by simpa using h')
theorem slots_own {ms : List Bool} : ∀ {ds : List D} {i : Nat} {d : D}, (slots ms ds)[i]? ≠ some (.own d) := by
  induction ms with
  | nil => intro ds i d h; simp [slots] at h
  | cons m ms ih =>
    intro ds i d h
    cases ds with
    | nil => cases m <;> simp [slots] at h
    | cons e ds =>
      cases i with
      | zero => cases m <;> simp [slots] at h
      | succ i =>
        refine ih (ds := ds) (i := i) (d := d) ?_
        cases m <;> simpa [slots] using h
theorem RepsM.lenD {K : PySem.W.Frag} {H F : Hp} : ∀ {ms : List Bool} {vs : List V} {ds : List D}, RepsM K H F ms vs ds → ms.length = ds.length
  | _, _, _, .nil => rfl
  | _, _, _, .val _ r => congrArg (· + 1) (RepsM.lenD r)
  | _, _, _, .bor _ r => congrArg (· + 1) (RepsM.lenD r)
theorem st_start {K : PySem.W.Frag} {H F : Hp} {N : List Str} {ms : List Bool} {vs : List V} {ds : List D} (s : Same F H) (r : RepsM K H F ms vs ds) : St K H F H F (L2.start N vs) (pad N.length (slots ms ds)) := by
  have l1 := r.length
  have l2 := r.lenD
  have l3 := slots_len l2
  have own : ∀ (i : Nat) (d : D), (pad N.length (slots ms ds))[i]? ≠ some (.own d) := fun i d h => by
    unfold pad at h
    by_cases hi : i < (slots ms ds).length
    · rw [List.getElem?_append_left hi] at h
      exact slots_own h
    · rw [List.getElem?_append_right (by omega), List.getElem?_replicate] at h
      split at h <;> cases h
  refine ⟨Same.refl _, Same.refl _, s, fun _ _ h => .inl h, ?_, fun i sl x h1 h2 => ?_, fun i j di dj p _ h => absurd h (own i di)⟩
  · unfold pad L2.start
    simp
    omega
  · unfold pad at h1
    unfold L2.start at h2
    by_cases hi : i < (slots ms ds).length
    · rw [List.getElem?_append_left hi] at h1
      rw [List.getElem?_append_left (by rw [List.length_map]; omega), List.getElem?_map] at h2
      obtain ⟨v, h3, h4⟩ := Option.map_eq_some_iff.mp h2
      subst h4
      exact slots_ok r i sl v h1 h3
    · rw [List.getElem?_append_right (by omega), List.getElem?_replicate] at h1
      split at h1
      · cases h1; trivial
      · cases h1
/-- a def's promise, where it hands back something new (fr) -/
def spQ (K : PySem.W.Frag) (fr : Bool) (ms : List Bool) (m : Fn) : Sp := fun vs H Q _ => ∃ (F : Hp) (ds : List D) (d : D), Same F H ∧ RepsM K H F ms vs ds ∧ m ds = some d ∧ ∀ H' F' v, Ext H F H' F' → RtP K fr H H' F' v d → Q v H'
/-- the body's result; a def that comes to its end hands back None (never where something new is promised) -/
def endQ (fr : Bool) : Out → Option D
  | .rt d => some d
  | .nx _ => if fr then none else some .none
def runQ (fr : Bool) (n : Nat) (ms : List Bool) (g : G) : Fn := fun ds => (g (pad n (slots ms ds))).bind (endQ fr)
theorem fn_ok {P : Program} {w : World} {K : PySem.W.Frag} {mg : Str → Option Value} {base : Heap} {x qual : Str} {st : Stmt} {f : Addr} {fd : FuncData} {N ps : List Str} {k : Nat} {fr : Bool} {ms : List Bool} {m : Fn} {g : G} (Fu : L2.Fun K x qual st f fd) (S : FnScope N ps (defScope st)) (hl : ms.length = ps.length)
    (hm : m = runQ fr N.length ms g)
    (hb : ∀ (cdv : Value) (A : Around) (outer : List Env) (s : Shared) (H : Hp) (E : XK), Room k (A.deeper (envOfC qual (defScope st) s.heap.objs.size f cdv)) → SXs (cxOf CX0 P w K mg base N qual (defScope st) f cdv A outer s H E).nox fr (defBody st) g) :
    FnOk P w K mg base CX0 (k + 1) f fd ps (spQ K fr ms m) := by
  subst hm
  refine Fu.ok S (fun vs H Q E h => ?_) (fun cdv A outer s H vs Q E hr h => ⟨_, hb cdv A outer s H E hr, ?_⟩)
  · obtain ⟨F, ds, d, s, r, _⟩ := h
    rw [r.length, hl]
  · obtain ⟨F, ds, d, s, r, hd, q⟩ := h
    obtain ⟨o, h1, h2⟩ := Option.bind_eq_some_iff.mp hd
    refine ⟨H, F, F, _, o, st_start s r, h1, ?_⟩
    cases o with
    | rt d' =>
      cases h2
      exact fun H' F' v e r => q H' F' v e r
    | nx ρ' =>
      cases fr with
      | true => cases h2
      | false =>
        cases h2
        exact fun σ' H' F' S' z => q H' F' .non S'.toExt .non
/-- the promise at less: nothing is answered -/
theorem fn_none {P : Program} {w : World} {K : PySem.W.Frag} {mg : Str → Option Value} {base : Heap} {f : Addr} {fd : FuncData} {ps : List Str} {k : Nat} {fr : Bool} {ms : List Bool} : FnOk P w K mg base CX0 k f fd ps (spQ K fr ms fun _ => none) :=
  ⟨fun vs H Q E ⟨_, _, _, _, _, h, _⟩ => (by cases h), fun A outer s H args us vs Q E _ _ _ _ ⟨_, _, _, _, _, h, _⟩ => (by cases h)⟩
section
variable {X : Cx} {k : Nat} {f : Addr} {fd : FuncData} {ps : List Str} {ms : List Bool} {m : Fn} {x : Str} {p pos : Pos} {e : Expr} {es : List Expr} {fs : List F1}
theorem c_call (G : FnOk X.prog X.w X.K X.mg X.base CX0 k f fd ps (spQ X.K false ms m)) (hr : Room k X.A) (hg : Gl X x) (hm : X.mg x = some (.ref f)) (hk : PySem.W.keepIn X.K (.ref f) = true) (hb : Binds X.K fd ps []) (ha : PAr X (e :: es) ms (fArgs fs))
    (hdb : (x == ("__debug__" : Str)) = false := by decide) (h1 : starEach (e :: es) X.env = (false, eval e X.env) :: starEach es X.env := by rfl) (hpl : (backTo pos (starEach es X.env)).any (·.1) = false := by rfl) :
    PX X (.Call (.Name x p) (e :: es) [] pos) (fCall m fs) := peImp (pe_call G hr hg hm hk hb .nil pass0 ha hdb h1 hpl) fun σ H Q ⟨H0, F0, F, ρ, d, S, hd, q⟩ => by
  obtain ⟨ds, hds, hm⟩ := Option.bind_eq_some_iff.mp hd
  refine ⟨H0, F0, F, ρ, ds, S, hds, fun H1 F1 vs e1 r1 => ?_⟩
  show spQ X.K false ms m (vs ++ []) H1 Q E0
  rw [List.append_nil]
  exact ⟨F1, ds, d, e1.sub, r1, hm, fun H' F' v e r => q H' F' v (e1.trans e) r⟩
/-- a call of a def that hands back something new -/
theorem c_callF (G : FnOk X.prog X.w X.K X.mg X.base CX0 k f fd ps (spQ X.K true ms m)) (hr : Room k X.A) (hg : Gl X x) (hm : X.mg x = some (.ref f)) (hk : PySem.W.keepIn X.K (.ref f) = true) (hb : Binds X.K fd ps []) (ha : PAr X (e :: es) ms (fArgs fs))
    (hdb : (x == ("__debug__" : Str)) = false := by decide) (h1 : starEach (e :: es) X.env = (false, eval e X.env) :: starEach es X.env := by rfl) (hpl : (backTo pos (starEach es X.env)).any (·.1) = false := by rfl) :
    PF X (.Call (.Name x p) (e :: es) [] pos) (fCall m fs) := peImp (pe_call G hr hg hm hk hb .nil pass0 ha hdb h1 hpl) fun σ H Q ⟨H0, F0, F, ρ, d, S, hd, q⟩ => by
  obtain ⟨ds, hds, hm⟩ := Option.bind_eq_some_iff.mp hd
  refine ⟨H0, F0, F, ρ, ds, S, hds, fun H1 F1 vs e1 r1 => ?_⟩
  show spQ X.K true ms m (vs ++ []) H1 Q E0
  rw [List.append_nil]
  refine ⟨F1, ds, d, e1.sub, r1, hm, fun H' F' v e r => ?_⟩
  obtain ⟨p, o, rfl, h1, h2, h3, h4⟩ := r
  exact q H' F' p o (e1.trans e) h1 (e1.h.free h2) h3 h4
end
end Pu
set_option maxRecDepth 100000
/-! len(set(..)). -/
namespace Pu
open PySem PySem.Spec PyProof.Rows L2

theorem metD_succ {ds : List D} {i : Nat} {d : D} (h : ds[i]? = some d) : metD (ds.take (i + 1)) = if inL d (metD (ds.take i)) then metD (ds.take i) else metD (ds.take i) ++ [d] := by
  have hl : i < ds.length := (List.getElem?_eq_some_iff.mp h).1
  have e : ds.take (i + 1) = ds.take i ++ [d] := by
    rw [List.take_add_one, h]; rfl
  unfold metD
  rw [e, List.foldl_append]; rfl
theorem metD_le : ∀ (ds : List D) (i : Nat), (metD (ds.take i)).length ≤ i
  | ds, 0 => by simp [metD]
  | ds, i + 1 => by
    cases h : ds[i]? with
    | none =>
      have hl : ds.length ≤ i := List.getElem?_eq_none_iff.mp h
      rw [List.take_of_length_le (by omega)]
      have := metD_le ds i
      rw [List.take_of_length_le hl] at this
      omega
    | some d =>
      have := metD_le ds i
      rw [metD_succ h]
      split
      · omega
      · rw [List.length_append]; simp; omega
section
variable {prog : Program} {w : World} {A : Around} {R : Result → Shared → Prop} {I : Addr} {fp wr : List Addr} {GG : Array GenState → Array GenState → Prop} {n : Nat} {P : Nat → Value → Prop} {Sd : Nat → Shared → Prop}
def SetHas (prog : Program) (w : World) (h : Heap) (S : Addr) (seen : List D) : Prop := h.SetOf (mixKind prog w) S (fun k => inL (keyD k) seen) seen.length
theorem SetHas.moved {h h' : Heap} {S : Addr} {seen : List D} (x : SetHas prog w h S seen) (k : ∀ o, h.get? S = some o → h'.get? S = some o) : SetHas prog w h' S seen := by
  obtain ⟨o, es, ep, t, ho, r⟩ := x
  exact ⟨o, es, ep, t, k o ho, r⟩
theorem setCongr {h : Heap} {a : Addr} {S S' : L2.Key → Bool} {n n' : Nat} (x : h.SetOf (mixKind prog w) a S n) (e : ∀ k, S k = S' k) (en : n = n') : h.SetOf (mixKind prog w) a S' n' := by
  obtain rfl : S = S' := funext e
  subst en
  exact x
theorem SetHas.add {h' : Heap} {S : Addr} {seen : List D} {k : L2.Key} (x : h'.SetOf (mixKind prog w) S (fun k' => inL (keyD k') seen || decide (k' = k)) (if inL (keyD k) seen then seen.length else seen.length + 1)) : SetHas prog w h' S (if inL (keyD k) seen then seen else seen ++ [keyD k]) := by
  unfold SetHas
  cases e : inL (keyD k) seen with
  | true =>
    rw [e] at x
    refine setCongr x (fun k' => ?_) rfl
    by_cases ek : k' = k
    · subst ek; simp [e]
    · simp [ek]
  | false =>
    rw [e] at x
    refine setCongr x (fun k' => ?_) (by simp)
    show _ = (seen ++ [keyD k]).any _
    rw [List.any_append]
    show (inL (keyD k') seen || decide (k' = k)) = (inL (keyD k') seen || ([keyD k].any fun z => PyData.eqv z (keyD k')))
    congr 1
    simp only [List.any_cons, List.any_nil, Bool.or_false]
    rw [eqv_keyD]
    by_cases ek : k' = k
    · subst ek; simp
    · simp [ek, Ne.symm ek]
theorem setLoop (W : WalksS prog w A.in1 I fp wr GG n P Sd) (S : Addr) (out : S ∉ fp) (ds : List D) (small : n < 4000) (val : ∀ i v, P i v → ∃ k, ds[i]? = some (keyD k) ∧ RelV (kV k) v) :
    ∀ (m i : Nat) (s : Shared), n - i = m → i ≤ n → Sd i s → SetHas prog w s.heap S (metD (ds.take i)) →
      (∀ s', Moved (S :: wr) GG s s' → SetHas prog w s'.heap S (metD (ds.take n)) → R (.ok (.ret .none)) s') → codeAny (model prog w) A (.builtin "set.update.loop" ⟨[.ref S, .ref I], []⟩) R s := by
  have notW : S ∉ wr := fun h => out (W.sub _ h)
  have more : ∀ b ∈ wr, b ∈ S :: wr := fun b hb => List.mem_cons_of_mem _ hb
  intro m
  induction m with
  | zero =>
    intro i s hm hi st has fin
    obtain rfl : i = n := by omega
    refine codeAny_builtin PyProof.Rows.F.entry_set_update_loop ?_
    rw [Around.under_plainId PyProof.Rows.F.plain_set_update_loop _]
    show wpAny _ A.in1 (pyNext (.ref I) >>= _) _ _ s
    refine wpAny_bind (W.done s _ _ st fun s' mv => ?_)
    exact wpAny_pure (fin s' (mv.mono more) (has.moved fun o ho => mv.heap S _ notW ho))
  | succ m ih =>
    intro i s hm hi st has fin
    have lt : i < n := by omega
    refine codeAny_builtin PyProof.Rows.F.entry_set_update_loop ?_
    rw [Around.under_plainId PyProof.Rows.F.plain_set_update_loop _]
    show wpAny _ A.in1 (pyNext (.ref I) >>= _) _ _ s
    refine wpAny_bind (W.item i s _ _ lt st fun v s' hP st' mv => ?_)
    obtain ⟨k, hk, rv⟩ := val i v hP
    have is : (mixKind prog w).is k v = true := kV_is rv
    have scan : v.scannable = true := by
      cases k with
      | inl i => obtain ⟨t, rfl⟩ := rv; rfl
      | inr x => obtain ⟨t, rfl⟩ := rv; rfl
    have has' : SetHas prog w s'.heap S (metD (ds.take i)) := has.moved fun o ho => mv.heap S _ notW ho
    have le := metD_le ds i
    have go : ∀ (Q : Bool → Shared → Prop) (E : Value → Shared → Prop), (∀ b s2, (∃ tk, s2 = { s' with heap := s2.heap, toks := tk } ∧ s'.toks ≤ tk) → Heap.SameBut S s'.heap s2.heap → SetHas prog w s2.heap S (metD (ds.take (i + 1))) → Q b s2) → wpAny (model prog w) A.in1 (setAdd S v) Q E s' := fun Q E hq => by
      unfold setAdd
      refine wpAny_holding (wpAny_bind ((mixKind prog w).pyHash (k := k) is ?_))
      refine wpAny_setAddHashed_of (knd := mixKind prog w) (s := { s' with toks := s'.toks + 1 }) is scan has' (by unfold scanBound; omega) fun h' sb x => ?_
      refine hq _ _ ⟨_, rfl, Nat.le_succ _⟩ sb ?_
      rw [metD_succ hk]
      exact SetHas.add x
    show wpAny _ A.in1 (holding [v] (setAdd S v) >>= _) _ _ s'
    refine wpAny_bind (wpAny_holding (go _ _ fun b s2 e sb x => ?_))
    obtain ⟨tk, e, le2⟩ := e
    rw [e]
    refine wpAny_pure ⟨plainId_quiet PyProof.Rows.F.plain_set_update_loop _, ih (i + 1) _ (by omega) lt (W.frame _ s' _ _ st' le2 fun b hb o e => ?_) x fun s'' mv' x' => ?_⟩
    · rw [sb.2 b fun h : b = S => out (h ▸ hb)]; exact e
    · refine fin s'' (Moved.trans W.gtrans ((mv.mono more).then_heap le2 fun b o hb e => ?_) mv') x'
      rw [sb.2 b fun h : b = S => hb (h ▸ List.mem_cons_self)]; exact e
end
section
variable {prog : Program} {w : World} {A : Around} {E : Value → Shared → Prop} {s : Shared}
/-- what stands behind the update of a new, empty set by an iterator -/
def SetMade (prog : Program) (w : World) (s : Shared) (ds : List D) (s2 : Shared) : Prop := ∃ h' tk, s2 = { s with heap := h', toks := tk } ∧ SetHas prog w h' s.heap.objs.size (metD ds) ∧ ∀ b o, b < s.heap.objs.size → s.heap.get? b = some o → h'.get? b = some o
abbrev emptySet (led : Bool) : Obj := { cls := .type "set", dict := none, data := .set #[] 0 (.fresh 0 0 led) }
theorem emptyHas {h : Heap} {a : Addr} {led : Bool} (g : h.get? a = some (emptySet led)) : SetHas prog w h a (metD [].toArray.toList) :=
  ⟨_, #[], 0, _, g, ⟨rfl, rfl, rfl⟩, rfl, fun e he => by simp at he, fun k => by simp [metD, inL], by unfold scanBound; decide, rfl, rfl⟩
set_option maxHeartbeats 3200000 in
theorem call_setK_list {l : Addr} {items : Array Value} {ds : List D} {Q : Value → Shared → Prop} (hh : A.handled = none) (src : s.heap.IsList l items)
    (hsz : items.size = ds.length) (small : ds.length < 4000) (val : ∀ (i : Nat) (v : Value), items[i]? = some v → ∃ k, ds[i]? = some (keyD k) ∧ RelV (kV k) v)
    (h : ∀ s2, SetMade prog w s ds s2 → Q (.ref s.heap.objs.size) s2) : wpAny (model prog w) A (call (.type "set") [.ref l]) Q E s := by
  obtain ⟨c, tl, hmro⟩ := PySem.F.called_set.mro
  have q1 := PySem.F.called_set.made
  have q2 := PySem.F.called_set.sub
  refine wpAny_call (codeAny_of_tree ?_)
  show wpAny _ _ (callAny (.type "set") _) _ _ _
  refine wpAny_pure ⟨Code.quiet_builtin _ (by decide +kernel), codeAny_builtin PySem.F.entry_type_call ?_⟩
  rw [Around.under_plain (weight_type_call_type "set" [.ref l] []) rfl]
  have q3 := PySem.F.called_set.notType
  have q4 := PySem.F.called_set.canCreate
  have q5 := PySem.F.typeCall_set_1 (.ref l)
  repeat (any_goals (first | assumption | wp_step))

  have fresh := code_set_new_1 (prog := prog) (w := w) (A := A.in1) (s := s) (.ref l) (E := E) (Q₁ := fun obj s1 => ∃ led : Bool, obj = .ref s.heap.objs.size ∧ s1 = { s with heap := s.heap.push (emptySet led) }) fun led => ⟨led, rfl, rfl⟩
  refine codeAny_mono fresh fun r1 s1 o1 => ?_
  cases r1 with
  | error e => exact o1
  | ok fl =>
    cases fl with
    | ret obj =>
      obtain ⟨led, rfl, rfl⟩ := o1
      have here : (s.heap.push (emptySet led)).get? s.heap.objs.size = some (emptySet led) := Heap.get?_push_size _ rfl
      have isSet : Shared.TypeIs { s with heap := s.heap.push (emptySet led) } (.ref s.heap.objs.size) "set" := ⟨_, here, rfl⟩
      have q6 := PySem.F.called_set.init.lookup
      have q7 := PySem.F.called_set.init.bind (.ref s.heap.objs.size)
      repeat (any_goals (first | assumption | wp_step))

      refine codeAny_mono (codeAny_call_builtin (R := wants (fun r s2 => r = .none ∧ SetMade prog w s ds s2) E) PySem.F.called_set.init.plain PySem.F.entry_set_init (check_set_init_1 isSet ?_)) fun r2 s2 o2 => ?_
      · obtain ⟨⟨ac, ad, at', asl⟩, got, cl, ep, dat⟩ := src
        simp only at cl dat
        subst cl
        subst dat
        have got' : (s.heap.push (emptySet led)).get? l = some { cls := .type "list", dict := ad, data := .seq items ep, slots := asl } := Heap.get?_push_of_some _ got
        have z1 := PySem.F.sub_list_set
        have z2 := PySem.F.sub_list_frozenset
        have z3 : (Value.type "list" == Value.type "dict") = false := by decide
        have src' : (s.heap.push (emptySet led)).IsList l items := ⟨_, got', rfl, ep, rfl⟩
        unfold Builtin.«set.__init__» noKeywords Builtin.Frozenset.updateFrom
        generalize hidden : pyIter = PI
        wp_walk
        subst hidden

        refine wpAny_pyIter_list src' (wpAny_bind (wpAny_runValue ?_))
        have lt : l < s.heap.objs.size := Heap.lt_size got
        have sz : (s.heap.push (emptySet led)).objs.size = s.heap.objs.size + 1 := Heap.size_push ..
        have calm : A.in1.in1.in1.handled = none := by simp [hh]
        have apart : l ≠ (s.heap.push (emptySet led)).objs.size := by
          rw [sz]; exact Nat.ne_of_lt (Nat.lt_succ_of_lt lt)
        have out : s.heap.objs.size ∉ [(s.heap.push (emptySet led)).objs.size, l] := by
          rw [sz]
          simp only [List.mem_cons, List.not_mem_nil, or_false, not_or]
          exact ⟨Nat.ne_of_lt (Nat.lt_succ_self _), Nat.ne_of_gt lt⟩
        refine setLoop ((Walks.list calm _ l apart items).toS) s.heap.objs.size out ds (by rw [hsz]; exact small) val (items.size - 0) 0 _ (by omega) (Nat.zero_le _) ⟨⟨_, Heap.get?_push_size _ rfl, rfl, rfl⟩, src'.push _⟩ ?start ?fin
        case start =>
          exact emptyHas (Heap.get?_push_of_some _ here)
        case fin =>
          intro s3 mv has
          obtain ⟨h3, g3, d3, t3, o3⟩ := s3
          have e1 : g3 = s.gens := mv.gens
          have e2 : d3 = s.drawn := mv.drawn
          have e3 : o3 = s.os := mv.os
          subst e1 e2 e3
          show wpAny _ _ _ _ _ _
          refine wpAny_pure ?_
          show wpAny _ _ (ret Value.none) _ _ _
          rw [hsz, List.take_length] at has
          refine wpAny_pure ⟨rfl, h3, t3, rfl, has, fun b o hb e => ?_⟩
          have nb : b ∉ [s.heap.objs.size, (s.heap.push (emptySet led)).objs.size] := by
            rw [sz]
            simp only [List.mem_cons, List.not_mem_nil, or_false, not_or]
            exact ⟨Nat.ne_of_lt hb, Nat.ne_of_lt (Nat.lt_succ_of_lt hb)⟩
          exact mv.heap b o nb (Heap.get?_push_of_some _ (Heap.get?_push_of_some _ e))
      · cases r2 with
        | error e => exact o2
        | ok fl2 =>
          cases fl2 with
          | ret r =>
            obtain ⟨rfl, made⟩ := o2
            repeat (any_goals (first | assumption | wp_step))
            exact h _ made
          | _ => exact o2.elim
    | _ => exact o1.elim
set_option maxHeartbeats 3200000 in
theorem call_setK_tuple {l : Addr} {items : Array Value} {ds : List D} {Q : Value → Shared → Prop} (hh : A.handled = none) (src : s.heap.IsTuple l items)
    (hsz : items.size = ds.length) (small : ds.length < 4000) (val : ∀ (i : Nat) (v : Value), items[i]? = some v → ∃ k, ds[i]? = some (keyD k) ∧ RelV (kV k) v)
    (h : ∀ s2, SetMade prog w s ds s2 → Q (.ref s.heap.objs.size) s2) : wpAny (model prog w) A (call (.type "set") [.ref l]) Q E s := by
  obtain ⟨c, tl, hmro⟩ := PySem.F.called_set.mro
  have q1 := PySem.F.called_set.made
  have q2 := PySem.F.called_set.sub
  refine wpAny_call (codeAny_of_tree ?_)
  show wpAny _ _ (callAny (.type "set") _) _ _ _
  refine wpAny_pure ⟨Code.quiet_builtin _ (by decide +kernel), codeAny_builtin PySem.F.entry_type_call ?_⟩
  rw [Around.under_plain (weight_type_call_type "set" [.ref l] []) rfl]
  have q3 := PySem.F.called_set.notType
  have q4 := PySem.F.called_set.canCreate
  have q5 := PySem.F.typeCall_set_1 (.ref l)
  repeat (any_goals (first | assumption | wp_step))

  have fresh := code_set_new_1 (prog := prog) (w := w) (A := A.in1) (s := s) (.ref l) (E := E) (Q₁ := fun obj s1 => ∃ led : Bool, obj = .ref s.heap.objs.size ∧ s1 = { s with heap := s.heap.push (emptySet led) }) fun led => ⟨led, rfl, rfl⟩
  refine codeAny_mono fresh fun r1 s1 o1 => ?_
  cases r1 with
  | error e => exact o1
  | ok fl =>
    cases fl with
    | ret obj =>
      obtain ⟨led, rfl, rfl⟩ := o1
      have here : (s.heap.push (emptySet led)).get? s.heap.objs.size = some (emptySet led) := Heap.get?_push_size _ rfl
      have isSet : Shared.TypeIs { s with heap := s.heap.push (emptySet led) } (.ref s.heap.objs.size) "set" := ⟨_, here, rfl⟩
      have q6 := PySem.F.called_set.init.lookup
      have q7 := PySem.F.called_set.init.bind (.ref s.heap.objs.size)
      repeat (any_goals (first | assumption | wp_step))

      refine codeAny_mono (codeAny_call_builtin (R := wants (fun r s2 => r = .none ∧ SetMade prog w s ds s2) E) PySem.F.called_set.init.plain PySem.F.entry_set_init (check_set_init_1 isSet ?_)) fun r2 s2 o2 => ?_
      · obtain ⟨⟨ac, ad, at', asl⟩, got, cl, ep, dat⟩ := src
        simp only at cl dat
        subst cl
        subst dat
        have got' : (s.heap.push (emptySet led)).get? l = some { cls := .type "tuple", dict := ad, data := .seq items ep, slots := asl } := Heap.get?_push_of_some _ got
        have z1 := PySem.F.sub_tuple_set
        have z2 := PySem.F.sub_tuple_frozenset
        have z3 : (Value.type "tuple" == Value.type "dict") = false := by decide
        have src' : (s.heap.push (emptySet led)).IsTuple l items := ⟨_, got', rfl, ep, rfl⟩
        unfold Builtin.«set.__init__» noKeywords Builtin.Frozenset.updateFrom
        generalize hidden : pyIter = PI
        wp_walk
        subst hidden

        refine wpAny_pyIter_tuple src' (wpAny_bind (wpAny_runValue ?_))
        have lt : l < s.heap.objs.size := Heap.lt_size got
        have sz : (s.heap.push (emptySet led)).objs.size = s.heap.objs.size + 1 := Heap.size_push ..
        have calm : A.in1.in1.in1.handled = none := by simp [hh]
        have apart : l ≠ (s.heap.push (emptySet led)).objs.size := by
          rw [sz]; exact Nat.ne_of_lt (Nat.lt_succ_of_lt lt)
        have out : s.heap.objs.size ∉ [(s.heap.push (emptySet led)).objs.size, l] := by
          rw [sz]
          simp only [List.mem_cons, List.not_mem_nil, or_false, not_or]
          exact ⟨Nat.ne_of_lt (Nat.lt_succ_self _), Nat.ne_of_gt lt⟩
        refine setLoop ((Walks.tuple calm _ l apart items).toS) s.heap.objs.size out ds (by rw [hsz]; exact small) val (items.size - 0) 0 _ (by omega) (Nat.zero_le _) ⟨⟨_, Heap.get?_push_size _ rfl, rfl, rfl⟩, src'.push _⟩ ?start ?fin
        case start =>
          exact emptyHas (Heap.get?_push_of_some _ here)
        case fin =>
          intro s3 mv has
          obtain ⟨h3, g3, d3, t3, o3⟩ := s3
          have e1 : g3 = s.gens := mv.gens
          have e2 : d3 = s.drawn := mv.drawn
          have e3 : o3 = s.os := mv.os
          subst e1 e2 e3
          show wpAny _ _ _ _ _ _
          refine wpAny_pure ?_
          show wpAny _ _ (ret Value.none) _ _ _
          rw [hsz, List.take_length] at has
          refine wpAny_pure ⟨rfl, h3, t3, rfl, has, fun b o hb e => ?_⟩
          have nb : b ∉ [s.heap.objs.size, (s.heap.push (emptySet led)).objs.size] := by
            rw [sz]
            simp only [List.mem_cons, List.not_mem_nil, or_false, not_or]
            exact ⟨Nat.ne_of_lt hb, Nat.ne_of_lt (Nat.lt_succ_of_lt hb)⟩
          exact mv.heap b o nb (Heap.get?_push_of_some _ (Heap.get?_push_of_some _ e))
      · cases r2 with
        | error e => exact o2
        | ok fl2 =>
          cases fl2 with
          | ret r =>
            obtain ⟨rfl, made⟩ := o2
            repeat (any_goals (first | assumption | wp_step))
            exact h _ made
          | _ => exact o2.elim
    | _ => exact o1.elim
end
theorem Reps.keys {K : PySem.W.Frag} {F : Hp} : ∀ {xs : List V} {ds : List D} {us : List Value}, Reps K F xs ds → Vals xs us → ds.all keyOk = true → ∀ (i : Nat) (v : Value), us[i]? = some v → ∃ k, ds[i]? = some (keyD k) ∧ RelV (kV k) v
  | _, _, _, .nil, .nil, _, i, v, h => by simp at h
  | _, _, _, .cons r rr, .cons q qq, ok, 0, v, h => by
    simp at h
    subst h
    rw [List.all_cons, Bool.and_eq_true] at ok
    obtain ⟨k, rfl, rfl⟩ := rep_key r ok.1
    exact ⟨k, rfl, q⟩
  | _, _, _, .cons r rr, .cons q qq, ok, i + 1, v, h => by
    rw [List.all_cons, Bool.and_eq_true] at ok
    obtain ⟨k, h1, h2⟩ := Reps.keys rr qq ok.2 i v (by simpa using h)
    exact ⟨k, by simpa using h1, h2⟩
/-- set(x), new -/
theorem run_set {X : Cx} {pins : List (Addr × Obj)} {s : Shared} {σ : L2.St} {H F : Hp} {x : D} {v : V} {u : Value} {ds : List D} {Q : Value → Shared → Prop} {A : Around} {E : Value → Shared → Prop} (I : Inv X pins σ H s) (sub : Same F H) (r : RepB X.K H F v x) (rv : RelV v u)
    (hx : (x = .list ds ∨ x = .tuple ds) ∧ ds.all keyOk = true ∧ ds.length < 4000) (hh : A.handled = none) (h : ∀ s2, SetMade X.prog X.w s ds s2 → Q (.ref s.heap.objs.size) s2) : wpAny (model X.prog X.w) A (call (.type "set") [u]) Q E s := by
  obtain ⟨hx, ok, small⟩ := hx
  rcases hx with rfl | rfl
  · obtain ⟨a, xs, rfl, hs, rr⟩ := r.list sub
    cases rv
    obtain ⟨its, q, p, hz⟩ := I.list hs
    have e := q.length
    have e2 := rr.length
    exact call_setK_list hh p.isList (by rw [List.size_toArray]; omega) small (fun i v hv => rr.keys q ok i v (by simpa using hv)) h
  · obtain ⟨a, xs, rfl, _, hs, rr⟩ := r.tuple sub
    cases rv
    obtain ⟨its, q, p, hz⟩ := I.tuple hs
    have e := q.length
    have e2 := rr.length
    exact call_setK_tuple hh p (by rw [List.size_toArray]; omega) small (fun i v hv => rr.keys q ok i v (by simpa using hv)) h
theorem Inv.made {X : Cx} {pins : List (Addr × Obj)} {s s2 : Shared} {σ : L2.St} {H : Hp} {ds : List D} (I : Inv X pins σ H s) (m : SetMade X.prog X.w s ds s2) : Inv X pins σ H s2 := by
  obtain ⟨h', tk, rfl, _, k⟩ := m
  exact I.kept fun b o e => k b o (Heap.lt_size e) e
section
variable {X : Cx} {a : Expr} {f : F1} {p p2 q pos : Pos}
theorem x_lenSet (hc : X.calm = true) (hg : Gl X "len") (hm : X.mg "len" = none) (hg2 : Gl X "set") (hm2 : X.mg "set" = none) (ha : PB X a f) (na : starEach [a] X.env = (false, eval a X.env) :: starEach [] X.env := by rfl) :
    PX X (.Call (.Name "len" p) [.Call (.Name "set" p2) [a] [] q] [] pos) (f1 lenSetD f) := by
  refine ⟨fun pins s σ H Q I ⟨H0, F0, F, ρ, d, S, hd, qq⟩ => ?_⟩
  obtain ⟨x, hx, ho⟩ := f1_some hd
  have shape : ∃ ds, ((x = .list ds ∨ x = .tuple ds) ∧ ds.all keyOk = true ∧ ds.length < 4000) ∧ d = .int (metD ds).length := by
    unfold lenSetD at ho
    split at ho
    · split at ho
      · rename_i hk
        cases ho
        rw [Bool.and_eq_true] at hk
        exact ⟨_, ⟨.inl rfl, hk.1, of_decide_eq_true hk.2⟩, rfl⟩
      · cases ho
    · split at ho
      · rename_i hk
        cases ho
        rw [Bool.and_eq_true] at hk
        exact ⟨_, ⟨.inr rfl, hk.1, of_decide_eq_true hk.2⟩, rfl⟩
      · cases ho
    · cases ho
  obtain ⟨ds, hds, rfl⟩ := shape
  refine Call_ (ld_blt I hg hm PySem.boot_len (PyProof.Rows.callWith_builtin1 (PyProof.Rows.args_cons ?_ rfl) rfl rfl))
  refine Call_ (ld_blt I hg2 hm2 PyProof.Rows.boot_set (PyProof.Rows.callWith_type1 (PyProof.Rows.args_cons ?_ na) na rfl))
  refine thn (ha.run pins s σ H (fun v H' => ∃ F', Ext H F H' F' ∧ RepB X.K H' F' v x) I ⟨H0, F0, F, ρ, x, S, hx, fun H' F' v e r => ⟨F', e, r⟩⟩) fun u s1 hv => PyProof.Rows.args_nil ?_
  obtain ⟨v, H1, I1, rv, F1, e1, r1⟩ := hv
  refine run_set I1 e1.sub r1 rv hds (I1.ok.hd hc) fun s2 m => ?_
  have I2 := Inv.made I1 m
  obtain ⟨h', tk, rfl, has, k⟩ := m
  obtain ⟨o, es, ep, t, ho', hex, hdt, _, _, hb, hf, hn⟩ := has
  refine PyProof.Rows.args_nil (call_len_set ho' hex hdt hf (by unfold scanBound at hb; omega) ?_)
  exact ⟨.int (metD ds).length, H1, I2.tok _, ⟨_, by rw [hn]⟩, qq H1 F1 _ e1 (.int _)⟩
end
end Pu
set_option maxRecDepth 100000
/-! enumerate of tuples and texts; zip in any mix. -/
namespace Pu
open PySem PySem.Spec PyProof.Rows L2

section
open PyProof
set_option maxHeartbeats 1000000 in
theorem enum_new1 {v : Value} {o : Obj} {Hd : Heap → Prop} (B : Begins v o Hd) :
    Meets (Builtin.«enumerate.__new__» ⟨[.type "enumerate", v], []⟩) (fun _ R s => Hd s.heap ∧
      R (.ok (.ret (.ref (s.heap.push o).objs.size))) { s with heap := (s.heap.push o).push { cls := .type "enumerate", data := .fields #[.none, .bool false, .ref s.heap.objs.size, rawInt 0, .none, .none] } }) :=
  .of_wp fun prog w A R s hyp => by
    obtain ⟨hp, gn, dr, tk, os⟩ := s
    obtain ⟨h1, fin⟩ := hyp
    have hsub := sub_enumerate
    have begun : ∀ {A' : Around} {E : Value → Shared → Prop} {Q : Value → Shared → Prop}, Q (.ref hp.objs.size) ⟨hp.push o, gn, dr, tk, os⟩ → wpAny (model prog w) A' (pyIter v) Q E ⟨hp, gn, dr, tk, os⟩ :=
      fun q => B.iter prog w _ _ ⟨hp, gn, dr, tk, os⟩ _ h1 q
    wp_walk using begun
    refine wpAny_stack_any fun st => wpAny_pure ?_
    split
    · rename_i c _ _ _ _ _
      cases (c == Value.type "enumerate") <;> (wp_walk using begun; exact ⟨_, rfl, fin⟩)
    · wp_walk using begun
      exact ⟨_, rfl, fin⟩
theorem enum_call1 {prog : Program} {w : World} {A : Around} {E : Value → Shared → Prop} {s : Shared} {v : Value} {o : Obj} {Hd : Heap → Prop} {Q : Value → Shared → Prop} (B : Begins v o Hd) (h1 : Hd s.heap)
    (h : ∀ h', IsEnum h' (s.heap.objs.size + 1) s.heap.objs.size 0 .none → h'.get? s.heap.objs.size = some o → (∀ b o, s.heap.get? b = some o → h'.get? b = some o) → Q (.ref (s.heap.objs.size + 1)) { s with heap := h' }) :
    wpAny (model prog w) A (call (.type "enumerate") [v]) Q E s := by
  refine callType_new F.called_enumerate (by decide) (F.typeCall_enumerate_1 _) (F.newCall_enumerate_1 _) (fun obj => F.args_object_init_2 obj _) F.entry_enumerate_new (enum_new1 B) ⟨h1, ?_⟩
  have sz : (s.heap.push o).objs.size = s.heap.objs.size + 1 := Heap.size_push ..
  have en := Heap.get?_push_size (s.heap.push o) (o := { cls := .type "enumerate", data := .fields #[.none, .bool false, .ref s.heap.objs.size, rawInt 0, .none, .none] }) rfl
  show _ ∧ _
  rw [sz] at en ⊢
  exact ⟨⟨_, en, rfl⟩, h _ en (Heap.get?_push_of_some _ (Heap.get?_push_size _ B.free)) fun b o x => Heap.get?_push_of_some _ (Heap.get?_push_of_some _ x)⟩
end

/-- the items at f, numbered, in new pairs -/
def Itn (go : Nat → Hp → Prop) (f : Nat → Hp → V → Prop) (stop : Nat → Hp → Prop) : It := ⟨go, fun i H v H' => ∃ T x, v = .ref T ∧ H T = none ∧ H' = upd H T (.tup [.int (i : Nat), x]) ∧ f i H x, stop⟩
def IteT (K : PySem.W.Frag) (a : Addr) : It := Itn (fun i H => ∃ (xs : List V) (x : V), SqT K H a xs ∧ xs[i]? = some x) (fun i H x => ∀ xs, SqT K H a xs → xs[i]? = some x) (fun i H => ∃ xs : List V, SqT K H a xs ∧ xs.length = i)
def IteS (z : Str) : It := Itn (fun i _ => i < z.cps.size) (fun i _ x => ∃ c, z.cps[i]? = some c ∧ x = .str ⟨#[c]⟩) (fun i _ => z.cps.size = i)
/-- one numbered item comes -/
theorem enum_item {X : Cx} {pins : List (Addr × Obj)} {σ : L2.St} {H : Hp} {s : Shared} {E : Value → Shared → Prop} {elts : List Expr} {kk : Nat} {tpos : Pos} {e it : Addr} {fp : List Addr} {n i : Nat} {P : Nat → Value → Prop} {Sd : Nat → Heap → Prop} {old : Value} {Q : V → Prop}
    (I : Inv X pins σ H s) (fr : ∀ b ∈ [e, it], FpOk X pins H b) (Dr : Draws X.prog X.w X.A.in1 it fp n P Sd) (en : IsEnum s.heap e it ((i : Nat) : Int) old) (st : Sd i s.heap) (lt : i < n) (ne : e ≠ it) (nf : e ∉ fp) (hv : ∀ u, P i u → ∃ x, RelV x u ∧ Q x) :
    wpAny (model X.prog X.w) X.A (pyNext (.ref e)) (fun r s1 => ∃ u, r = some u ∧ wpAny (model X.prog X.w) X.A (letOwnedTupleGo (.Tuple elts kk tpos) (.ref e) u) (fun _ s2 => ∃ x H', Inv X pins σ H' s2 ∧ RelV x u ∧
      (∃ T y, x = .ref T ∧ H T = none ∧ H' = upd H T (.tup [.int (i : Nat), y]) ∧ Q y) ∧ ((∃ old, IsEnum s2.heap e it ((i + 1 : Nat) : Int) old) ∧ Sd (i + 1) s2.heap) ∧ ∀ b ∈ [e, it], H' b = none) E s1) E s := by
  have hel : e < s.heap.objs.size := Heap.lt_size en
  have hil : it < s.heap.objs.size := by
    obtain ⟨o, q⟩ := Dr.live _ _ st
    exact Heap.lt_size q
  refine wpAny_pyNext_enum_itemD Dr en st lt ne nf fun u h' tk hP out st' hT _ kp => ⟨_, rfl, wpAny_letOwnedTupleGo_enum (s := { s with heap := h', toks := tk + 1 }) out fun h2 en' sb => ?_⟩
  obtain ⟨x, rx, qx⟩ := hv u hP
  have hT2 := (sb.2 _ (Nat.ne_of_gt hel)).trans hT
  have ok : ObjOk X.prog X.w (upd H s.heap.objs.size (.tup [.int (i : Nat), x])) h2 s.heap.objs.size (.tup [.int (i : Nat), x]) :=
    ⟨by show 2 ≤ sizeLine; decide, [.int i tk, u], .cons ⟨_, rfl⟩ (.cons rx .nil), ⟨_, hT2, rfl, _, rfl⟩⟩
  have I1 : Inv X pins σ _ { s with heap := h2, toks := tk + 1 } :=
    I.turnedNew (ch := [e, it]) (fun b ob hb q => (sb.2 b fun z => hb (by simp [z])).trans (kp b ob (fun z => hb (by simp [z])) (fun z => hb (by simp [z])) q)) fr (Nat.le_refl _) ok
  refine ⟨.ref s.heap.objs.size, _, I1, rfl, ⟨_, x, rfl, I.hok.fresh (Nat.le_refl _), rfl, qx⟩, ⟨⟨u, ?_⟩, Dr.frame _ _ _ st' fun b hb o q => (sb.2 b fun z => nf (z ▸ hb)).trans q⟩, fun b hb => ?_⟩
  · rw [show ((i + 1 : Nat) : Int) = (i : Int) + 1 by omega]; exact en'
  · have hb' : b < s.heap.objs.size := by
      rcases List.mem_cons.mp hb with rfl | hb
      · exact hel
      · rw [List.mem_singleton.mp hb]; exact hil
    rw [upd_ne (Nat.ne_of_lt hb')]
    exact (fr b hb).1
theorem enum_done {X : Cx} {pins : List (Addr × Obj)} {σ : L2.St} {H : Hp} {s : Shared} {E : Value → Shared → Prop} {e it : Addr} {fp : List Addr} {n : Nat} {P : Nat → Value → Prop} {Sd : Nat → Heap → Prop} {old : Value} {i : Int}
    (I : Inv X pins σ H s) (fr : ∀ b ∈ [e, it], FpOk X pins H b) (Dr : Draws X.prog X.w X.A.in1 it fp n P Sd) (en : IsEnum s.heap e it i old) (st : Sd n s.heap) : wpAny (model X.prog X.w) X.A (pyNext (.ref e)) (fun r s1 => r = none ∧ Inv X pins σ H s1) E s := by
  obtain ⟨f0, f1, f2, f3, f4, f5⟩ := fr it (by simp)
  exact wpAny_pyNext_enum_endD Dr en st fun h' eb => ⟨rfl, I.turned (t' := s.toks) (fun b o hb q => eb b o hb q) f0 f1 f3 f4 f5⟩
theorem enum_obj {h : Heap} {e it : Addr} {i : Int} (a : ∃ old, IsEnum h e it i old) (b : ∃ o, h.get? it = some o ∧ ∀ v, o.data ≠ .cell v) : ∀ c ∈ [e, it], ∃ o, h.get? c = some o ∧ ∀ v, o.data ≠ .cell v := fun c hc => by
  obtain ⟨old, he⟩ := a
  rcases List.mem_cons.mp hc with rfl | hc
  · exact ⟨_, he, fun v q => nomatch q⟩
  · rw [List.mem_singleton.mp hc]; exact b
theorem turn_enumT {P : Program} {w : World} {K : PySem.W.Frag} {elts : List Expr} {kk : Nat} {tpos : Pos} (a e it : Addr) (ne : e ≠ it) (na : e ≠ a) (nb : a ≠ it) :
    Turn P w K (.Tuple elts kk tpos) (IteT K a) [e, it] e (fun i h => (∃ old, IsEnum h e it ((i : Nat) : Int) old) ∧ h.IsTupleIter it a i) where
  mem := by simp
  obj := fun i h st => enum_obj st.1 (by
    obtain ⟨o, ho, hc, hd⟩ := st.2
    exact ⟨o, ho, fun v q => by rw [hd] at q; cases q⟩)
  keep := fun i h h' st k => by
    obtain ⟨⟨old, he⟩, hi⟩ := st
    exact ⟨⟨old, k e (by simp) _ he⟩, hi.at fun o q => k it (by simp) o q⟩
  item := by
    intro X hP hw hK hc i pins s σ H E I fr st hg
    subst hP hw hK
    obtain ⟨⟨old, he⟩, hit⟩ := st
    obtain ⟨xs, x, hq, hx⟩ := hg
    obtain ⟨its, rv, p, _⟩ := I.tuple hq
    have hl := rv.length
    have hlt : i < its.toArray.size := by
      rw [List.size_toArray, ← hl]
      exact (List.getElem?_eq_some_iff.mp hx).1
    have Dr := Draws.tuple (prog := X.prog) (w := X.w) (A := X.A.in1) (I.ok.hd hc) it a nb its.toArray
    refine thn (enum_item (elts := elts) (kk := kk) (tpos := tpos) (Q := fun y => ∀ xs, SqT X.K H a xs → xs[i]? = some y) I fr Dr he ⟨hit, p⟩ hlt ne (by simp [ne, na]) fun u hu => ?_) fun r s1 hr => ?_
    · obtain ⟨u', hu', ru⟩ := rv.get hx
      have : u = u' := Option.some.inj (hu.symm.trans (by simpa using hu'))
      subst this
      exact ⟨x, ru, fun ys hy => by rw [I.tuple_inj hy hq]; exact hx⟩
    · obtain ⟨u, e1, h2⟩ := hr
      refine ⟨u, e1, thn h2 fun _ s2 hs => ?_⟩
      obtain ⟨y, H', J, ry, yl, ⟨en, hi', _⟩, nn⟩ := hs
      exact ⟨y, H', J, ry, yl, ⟨en, hi'⟩, nn⟩
  done := by
    intro X hP hw hK hc i pins s σ H E I fr st hg
    subst hP hw hK
    obtain ⟨⟨old, he⟩, hit⟩ := st
    obtain ⟨xs, hq, hx⟩ := hg
    obtain ⟨its, rv, p, _⟩ := I.tuple hq
    have hl := rv.length
    have hn : i = its.toArray.size := by
      rw [List.size_toArray, ← hl]
      exact hx.symm
    subst hn
    exact enum_done I fr (Draws.tuple (prog := X.prog) (w := X.w) (A := X.A.in1) (I.ok.hd hc) it a nb its.toArray) he ⟨hit, p⟩
  self := fun A i s Q E st h => by
    obtain ⟨⟨_, he⟩, _⟩ := st
    exact wpAny_pyIter_enum he h
theorem turn_enumS {P : Program} {w : World} {K : PySem.W.Frag} {elts : List Expr} {kk : Nat} {tpos : Pos} (z : Str) (tk : Tok) (e it : Addr) (ne : e ≠ it) :
    Turn P w K (.Tuple elts kk tpos) (IteS z) [e, it] e (fun i h => (∃ old, IsEnum h e it ((i : Nat) : Int) old) ∧ h.IsStrIter it (strIterType z) z tk i) where
  mem := by simp
  obj := fun i h st => enum_obj st.1 (by
    obtain ⟨o, ho, hc, hd⟩ := st.2
    exact ⟨o, ho, fun v q => by rw [hd] at q; cases q⟩)
  keep := fun i h h' st k => by
    obtain ⟨⟨old, he⟩, o, i1, i2, i3⟩ := st
    exact ⟨⟨old, k e (by simp) _ he⟩, o, k it (by simp) o i1, i2, i3⟩
  item := by
    intro X hP hw hK hc i pins s σ H E I fr st hg
    subst hP hw hK
    obtain ⟨⟨old, he⟩, hit⟩ := st
    have Dr := Draws.text (prog := X.prog) (w := X.w) (A := X.A.in1) (I.ok.hd hc) it z tk
    exact enum_item (Q := fun y => ∃ c, z.cps[i]? = some c ∧ y = .str ⟨#[c]⟩) I fr Dr he hit hg ne (by simp [ne]) fun u ⟨c, t, h1, h2⟩ => ⟨.str ⟨#[c]⟩, ⟨t, h2⟩, c, h1, rfl⟩
  done := by
    intro X hP hw hK hc i pins s σ H E I fr st hg
    subst hP hw hK
    obtain ⟨⟨old, he⟩, hit⟩ := st
    have hn : z.cps.size = i := hg
    subst hn
    exact enum_done I fr (Draws.text (prog := X.prog) (w := X.w) (A := X.A.in1) (I.ok.hd hc) it z tk) he hit
  self := fun A i s Q E st h => by
    obtain ⟨⟨_, he⟩, _⟩ := st
    exact wpAny_pyIter_enum he h
def iEnumT (K : PySem.W.Frag) (ta : TA) : TI := fun σ H R => ta σ H fun vs H1 => ∃ a xs, vs = [.ref a] ∧ SqT K H1 a xs ∧ R (IteT K a) H1
def iEnumS (ta : TA) : TI := fun σ H R => ta σ H fun vs H1 => ∃ z, vs = [.str z] ∧ R (IteS z) H1
section
variable {X : Cx} {e : Expr} {ta : TA} {p pos tpos : Pos} {elts : List Expr} {kk : Nat}
theorem pi_enumT (hc : X.calm = true) (hg : Gl X "enumerate") (hm : X.mg "enumerate" = none) (ha : PA X [e] ta) (hs : starEach [e] X.env = [(false, eval e X.env)] := by rfl) : PI X (.Tuple elts kk tpos) (.Call (.Name "enumerate" p) [e] [] pos) (iEnumT X.K ta) := by
  refine ⟨fun pins s σ H R I h => Call_ (ld_blt I hg hm (by decide +kernel : bootBuiltins "enumerate" = some (.type "enumerate")) (PyProof.Rows.callWith_type1 (thn (ha.run pos pins s σ H _ I h) fun us s1 ⟨vs, H1, I1, r1, q1⟩ => ?_) hs rfl))⟩
  obtain ⟨a, xs, rfl, hq, q⟩ := q1
  obtain ⟨u, rfl, ru⟩ := vals1 r1
  cases ru
  obtain ⟨its, rv, tp, _⟩ := I1.tuple hq
  refine enum_call1 (begins_tuple a its.toArray) tp fun h' en it kp => wpAny_pyIter_enum en ?_
  have hlt := tp.lt
  have ne : s1.heap.objs.size + 1 ≠ s1.heap.objs.size := Nat.succ_ne_self _
  refine ⟨_, [s1.heap.objs.size + 1, s1.heap.objs.size], _, _, H1, rfl, I1.kept (t' := s1.toks) kp, turn_enumT a _ _ ne (Nat.ne_of_gt (Nat.lt_succ_of_lt hlt)) (Nat.ne_of_lt hlt), ⟨⟨.none, en⟩, ⟨_, it, rfl, rfl⟩⟩, fun b hb => ?_, q⟩
  have hle : s1.heap.objs.size ≤ b := by
    rcases List.mem_cons.mp hb with rfl | hb
    · exact Nat.le_succ _
    · rw [List.mem_singleton.mp hb]; exact Nat.le_refl _
  exact I1.fpOk hle (I1.hok.fresh hle)
theorem pi_enumS (hc : X.calm = true) (hg : Gl X "enumerate") (hm : X.mg "enumerate" = none) (ha : PA X [e] ta) (hs : starEach [e] X.env = [(false, eval e X.env)] := by rfl) : PI X (.Tuple elts kk tpos) (.Call (.Name "enumerate" p) [e] [] pos) (iEnumS ta) := by
  refine ⟨fun pins s σ H R I h => Call_ (ld_blt I hg hm (by decide +kernel : bootBuiltins "enumerate" = some (.type "enumerate")) (PyProof.Rows.callWith_type1 (thn (ha.run pos pins s σ H _ I h) fun us s1 ⟨vs, H1, I1, r1, q1⟩ => ?_) hs rfl))⟩
  obtain ⟨z, rfl, q⟩ := q1
  obtain ⟨u, rfl, ru⟩ := vals1 r1
  obtain ⟨tk, rfl⟩ := ru
  refine enum_call1 (begins_text z tk) trivial fun h' en it kp => wpAny_pyIter_enum en ?_
  have ne : s1.heap.objs.size + 1 ≠ s1.heap.objs.size := Nat.succ_ne_self _
  refine ⟨_, [s1.heap.objs.size + 1, s1.heap.objs.size], _, _, H1, rfl, I1.kept (t' := s1.toks) kp, turn_enumS z tk _ _ ne, ⟨⟨.none, en⟩, ⟨_, it, rfl, rfl⟩⟩, fun b hb => ?_, q⟩
  have hle : s1.heap.objs.size ≤ b := by
    rcases List.mem_cons.mp hb with rfl | hb
    · exact Nat.le_succ _
    · rw [List.mem_singleton.mp hb]; exact Nat.le_refl _
  exact I1.fpOk hle (I1.hok.fresh hle)
end
section
variable {K : PySem.W.Frag} {B F1 : Hp}
theorem yld_enumT {a : Addr} {xs : List V} {ds : List D} (hs : B a = some (.tup xs)) (r : Reps K F1 xs ds) : Yld K (IteT K a) B F1 (numFrom 0 ds) := fun i H F gB gF sub => by
  have hs' : SqT K H a xs := .of (gB _ _ hs)
  rw [num_len]
  refine ⟨fun hi => ?_, fun hi => ⟨xs, hs', by rw [r.length]; omega⟩, fun x H' d hd hy => ?_⟩
  · have hx : i < xs.length := by rw [r.length]; exact hi
    exact ⟨xs, xs[i], hs', by simp [hx]⟩
  · obtain ⟨T, y, rfl, hT, rfl, hx⟩ := hy
    obtain ⟨e, he, rfl⟩ := num_get hd
    obtain ⟨x', e', r'⟩ := r.get he
    have := hx xs hs'
    rw [e'] at this
    cases this
    refine ⟨_, Ext.laid sub _ hT, .tup upd_same (.cons ?_ (.cons (r'.mono (gF.trans (same_upd (sub.free hT)))) .nil))⟩
    rw [Nat.zero_add]; exact .int _
theorem yld_enumS {z : Str} (ok : PyData.strOk z = true) : Yld K (IteS z) B F1 (numFrom 0 (z.cps.toList.map fun c => .str ⟨#[c]⟩)) := fun i H F gB gF sub => by
  have hl : (z.cps.toList.map fun c => (PyData.str ⟨#[c]⟩)).length = z.cps.size := by simp
  rw [num_len, hl]
  refine ⟨fun hi => hi, fun hi => hi.symm, fun x H' d hd hy => ?_⟩
  obtain ⟨T, y, rfl, hT, rfl, c, hc, rfl⟩ := hy
  obtain ⟨e, he, rfl⟩ := num_get hd
  have e2 : e = .str ⟨#[c]⟩ := by
    rw [List.getElem?_map] at he
    have e2 : z.cps.toList[i]? = some c := by simpa using hc
    rw [e2] at he
    exact (Option.some.inj he).symm
  subst e2
  have hm : c ∈ z.cps := by
    obtain ⟨h1, h2⟩ := Array.getElem?_eq_some_iff.mp hc
    rw [← h2]; exact Array.getElem_mem h1
  have ok' : PyData.strOk ⟨#[c]⟩ = true := by
    unfold PyData.strOk at ok ⊢
    have := Array.all_eq_true_iff_forall_mem.mp ok c hm
    simpa using this
  refine ⟨_, Ext.laid sub _ hT, .tup upd_same (.cons ?_ (.cons (.str _ ok') .nil))⟩
  rw [Nat.zero_add]; exact .int _
end
/-- enumerate(x), x a list, a tuple or a text -/
def sEnum (a : F1) : FA := fun ρ => match a ρ with
  | some (.list ds) => some (numFrom 0 ds)
  | some (.tuple ds) => some (numFrom 0 ds)
  | some (.str x) => some (numFrom 0 (x.cps.toList.map fun c => .str ⟨#[c]⟩))
  | _ => none
theorem i_enum {X : Cx} {a : Expr} {f : F1} {p pos tpos : Pos} {elts : List Expr} {kk : Nat} (hg : Gl X "enumerate") (hm : X.mg "enumerate" = none) (ha : PX X a f) (hc : X.calm = true := by rfl) (h1 : starEach [a] X.env = (false, eval a X.env) :: starEach [] X.env := by rfl) (hs : starEach [a] X.env = [(false, eval a X.env)] := by rfl) :
    IX X (.Tuple elts kk tpos) (.Call (.Name "enumerate" p) [a] [] pos) false (sEnum f) := piImp (piOr (piOr (pi_enum hg hm (pa_cons ha pa_nil h1) hs) (pi_enumT hc hg hm (pa_cons ha pa_nil h1) hs)) (pi_enumS hc hg hm (pa_cons ha pa_nil h1) hs)) fun σ H R ⟨H0, F0, F, ρ, ds, S, hd, q⟩ => by
  unfold sEnum at hd
  split at hd
  · rename_i e
    cases hd
    refine .inl (.inl ⟨H0, F0, F, ρ, _, S, e, fun H1 F1 v e1 r1 => ?_⟩)
    cases r1 with
    | lst hs r => exact ⟨_, _, rfl, e1.sub.seq hs, q H1 F1 _ e1 (yld_enumL hs r)⟩
  · rename_i e
    cases hd
    refine .inl (.inr ⟨H0, F0, F, ρ, _, S, e, fun H1 F1 v e1 r1 => ?_⟩)
    cases r1 with
    | tup hs r => exact ⟨_, _, rfl, .of (e1.sub _ _ hs), q H1 F1 _ e1 (yld_enumT hs r)⟩
  · rename_i e
    cases hd
    refine .inr ⟨H0, F0, F, ρ, _, S, e, fun H1 F1 v e1 r1 => ?_⟩
    obtain ⟨h1, ok⟩ := RepB.str (H := H1) (.inl r1)
    exact ⟨_, by rw [h1], q H1 F1 _ e1 (yld_enumS ok)⟩
  · cases hd
end Pu
set_option maxRecDepth 100000
/-! Comprehensions with two fors; stores into lists and dicts; pop. -/
namespace Pu
open PySem PySem.Spec PyProof.Rows L2

section
variable {X : Cx} {elt tg iter tg1 iter1 : Expr} {ifs ifs1 : List Expr} {scope : Scope} {own : List (Str × Nat)} {vs1 : List Nat} {pos : Pos} {g g1 : TG} {tf tf1 : TgF} {src src1 : FA} {t t1 : FB} {f : F1}
theorem compL2_step {vs1 : List Nat} {e : F1} {ρ : Rho} {d : D} {ds : List D} {r : List D} (h : compL2 tf t vs1 src1 tf1 t1 e ρ (d :: ds) = some r) :
    ∃ ρ1 b, tf d ρ = some ρ1 ∧ t ρ1 = some b ∧ ((b = true ∧ ∃ ds1 r1 r', src1 ρ1 = some ds1 ∧ compL tf1 t1 e (wipeR ρ1 vs1) ds1 = some r1 ∧ compL2 tf t vs1 src1 tf1 t1 e ρ ds = some r' ∧ r = r1 ++ r') ∨ (b = false ∧ compL2 tf t vs1 src1 tf1 t1 e ρ ds = some r)) := by
  obtain ⟨ρ1, h1, h2⟩ := Option.bind_eq_some_iff.mp h
  obtain ⟨b, h3, h4⟩ := Option.bind_eq_some_iff.mp h2
  refine ⟨ρ1, b, h1, h3, ?_⟩
  cases b with
  | true =>
    rw [if_pos rfl] at h4
    obtain ⟨ds1, h5, h6⟩ := Option.bind_eq_some_iff.mp h4
    obtain ⟨r1, h7, h8⟩ := Option.bind_eq_some_iff.mp h6
    obtain ⟨r', h9, h10⟩ := Option.bind_eq_some_iff.mp h8
    exact .inl ⟨rfl, ds1, r1, r', h5, h7, h9, (Option.some.inj h10).symm⟩
  | false => exact .inr ⟨rfl, by simpa using h4⟩
theorem lc2_go {K : PySem.W.Frag} {vs : List Nat} (htg : TgOk K vs g tf) (htg1 : TgOk K vs1 g1 tf1) : ∀ σ H Q, tF K (fLc2 vs src tf t vs1 src1 tf1 t1 f) σ H Q → tLc2 (tI K true src) g (tTs K t) (tI K false src1) g1 (tTs K t1) (tX K f) vs vs1 σ H Q := fun σ H Q ⟨H0, F0, F, ρ, d, S, hd, q⟩ => by
  obtain ⟨ds, h1, h2⟩ := Option.bind_eq_some_iff.mp hd
  obtain ⟨r, h3, h4⟩ := Option.bind_eq_some_iff.mp h2
  split at h4
  case isFalse => cases h4
  rename_i hz
  cases h4
  have hz : r.length ≤ sizeLine := of_decide_eq_true hz
  refine ⟨H0, F0, F, ρ, ds, S, h1, fun H1 F1 J e1 y Dd hD => ?_⟩
  have y : Yld K J H1 F1 ds := y
  have S1 := S.ext e1
  have h0 : H0 Dd = none := S.h.free (e1.h.free hD)
  have no : Apart σ ρ Dd := S1.noOwn hD
  have C0 : CSt K H0 F0 H1 F1 σ ρ Dd r r (upd H1 Dd (.lst [])) F1 [] [] := ⟨S1.aside (e1.sub.free hD) h0 no, same_upd hD, Same.refl _, e1.sub.free hD, upd_same, .nil, rfl, fun _ _ z => .inl z⟩
  refine ⟨fun i m H => m = ds.length - i ∧ i ≤ ds.length ∧ ∃ rest F acc accD, CSt K H0 F0 H1 F1 σ ρ Dd r rest H F acc accD ∧ compL2 tf t vs1 src1 tf1 t1 f (wipeR ρ vs) (ds.drop i) = some rest, ⟨ds.length, by simp, Nat.zero_le _, r, F1, [], [], C0, by simpa using h3⟩, ?_⟩
  rintro i m H ⟨rfl, hi', rest, F2, acc, accD, C, hr⟩
  obtain ⟨y1, y2, y3⟩ := y i H F2 C.h C.f C.st.sub
  by_cases hlt : i < ds.length
  · have hdr : ds.drop i = ds[i] :: ds.drop (i + 1) := List.drop_eq_getElem_cons hlt
    rw [hdr] at hr
    obtain ⟨ρ1, b, g1', g2, g3⟩ := compL2_step hr
    refine .inr ⟨y1 hlt, fun H => ∃ rest F acc accD, CSt K H0 F0 H1 F1 σ ρ Dd r rest H F acc accD ∧ compL2 tf t vs1 src1 tf1 t1 f (wipeR ρ vs) (ds.drop (i + 1)) = some rest, fun H' w => ⟨_, by omega, rfl, hlt, w⟩, fun x H' yy => ?_⟩
    obtain ⟨F3, e3, r3⟩ := y3 x H' ds[i] (by simp [hlt]) yy
    have C3 := C.ext e3
    refine htg.run H0 F0 F3 H' _ _ ρ1 x _ _ (C3.st.wipe _) r3 g1' fun σ2 S2 hw ap => ⟨by rw [hw]; exact wipe_twice _ _, ?_⟩
    refine ⟨H0, F0, F3, ρ1, b, S2, g2, fun H4 F4 e4 => ?_⟩
    have own2 : Apart σ2 ρ1 Dd := ap Dd (Apart.wipe no vs)
    rcases g3 with ⟨rfl, ds1, r1, rest', g4, g5, g6, rfl⟩ | ⟨rfl, g5⟩
    · refine iteT ⟨H0, F0, F4, ρ1, ds1, S2.ext e4, g4, fun H5 F5 J1 e5 yI => ?_⟩
      have yI : Yld K J1 F5 F5 ds1 := yI
      have C5 := (C3.ext e4).ext e5
      -- the inner walk
      refine ⟨fun j k H => k = ds1.length - j ∧ j ≤ ds1.length ∧ ∃ rest1 F acc accD, CSt K H0 F0 H1 F1 σ ρ Dd r (rest1 ++ rest') H F acc accD ∧ St K H0 F0 H F σ2 ρ1 ∧ Same F5 F ∧ compL tf1 t1 f (wipeR ρ1 vs1) (ds1.drop j) = some rest1, ⟨ds1.length, by simp, Nat.zero_le _, r1, F5, acc, accD, C5, (S2.ext e4).ext e5, Same.refl _, by simpa using g5⟩, ?_⟩
      rintro j k H ⟨rfl, hj, rest1, F6, acc6, accD6, C6, S6, fz, hr1⟩
      obtain ⟨z1, z2, z3⟩ := yI j H F6 (fz.trans C6.st.sub) fz C6.st.sub
      by_cases hlt1 : j < ds1.length
      · have hdr1 : ds1.drop j = ds1[j] :: ds1.drop (j + 1) := List.drop_eq_getElem_cons hlt1
        rw [hdr1] at hr1
        obtain ⟨ρ3, b3, k1, k2, k3⟩ := compL_step hr1
        refine .inr ⟨z1 hlt1, fun H => ∃ rest1 F acc accD, CSt K H0 F0 H1 F1 σ ρ Dd r (rest1 ++ rest') H F acc accD ∧ St K H0 F0 H F σ2 ρ1 ∧ Same F5 F ∧ compL tf1 t1 f (wipeR ρ1 vs1) (ds1.drop (j + 1)) = some rest1, fun H' w => ⟨_, by omega, rfl, hlt1, w⟩, fun x1 H7 yy1 => ?_⟩
        obtain ⟨F7, e7, r7⟩ := z3 x1 H7 ds1[j] (by simp [hlt1]) yy1
        refine htg1.run H0 F0 F7 H7 _ _ ρ3 x1 _ _ ((S6.ext e7).wipe _) r7 k1 fun σ3 S7 hw3 _ => ⟨by rw [hw3]; exact wipe_twice _ _, ?_⟩
        refine ⟨H0, F0, F7, ρ3, b3, S7, k2, fun H8 F8 e8 => ?_⟩
        rcases k3 with ⟨rfl, zv, rest1', k4, k5, rfl⟩ | ⟨rfl, k5⟩
        · refine iteT ⟨H0, F0, F8, ρ3, zv, S7.ext e8, k4, fun H9 F9 v e9 r9 => ?_⟩
          have C9 := ((C6.ext e7).ext e8).ext e9
          refine ⟨acc6, C9.hd, ?_, rest1', F9, _, _, C9.push hD h0 no r9, (((S6.ext e7).ext e8).ext e9).aside C9.fd h0 own2, ((fz.trans e7.f).trans e8.f).trans e9.f, k5⟩
          have hl := C9.rep.length
          have he := congrArg List.length C9.eq
          rw [List.length_append, List.cons_append, List.length_cons] at he
          omega
        · exact iteF ⟨rest1, F8, acc6, accD6, (C6.ext e7).ext e8, (S6.ext e7).ext e8, (fz.trans e7.f).trans e8.f, k5⟩
      · have e : ds1.drop j = [] := List.drop_eq_nil_of_le (by omega)
        rw [e] at hr1
        cases hr1
        exact .inl ⟨z2 (by omega), rest', F6, acc6, accD6, C6, g6⟩
    · exact iteF ⟨rest, F4, acc, accD, C3.ext e4, g5⟩
  · have e : ds.drop i = [] := List.drop_eq_nil_of_le (by omega)
    rw [e] at hr
    cases hr
    refine .inl ⟨y2 (by omega), q H F2 Dd (.lst acc) ⟨e1.h.trans C.h, e1.f.trans C.f, C.st.sub, fun a o h => ?_⟩ C.fd (e1.h.free hD) C.hd ?_⟩
    · rcases C.nw a o h with h | h
      · exact e1.new a o h
      · exact .inr (e1.h.free h)
    · have : r = accD := by rw [C.eq, List.append_nil]
      rw [this]; exact C.rep
theorem f_lc2 (hc : X.calm = true) (hN : X.N.Nodup) (hi : IX X tg iter true src) (ok : BlkOk X.N X.env.scope scope own) (hv : ∀ i ∈ vs1, i ∈ own.map (·.2))
    (hg : ∀ (s : Shared) (H : Hp) (C : Addr) (cl : List (Str × Addr)) (fp : List Addr), PG (X.blk s H scope (compEnvC scope cl C X.env) fp) tg g) (htg : TgOk X.K (own.map (·.2)) g tf)
    (ht : ∀ (s : Shared) (H : Hp) (C : Addr) (cl : List (Str × Addr)) (fp : List Addr), PIf (X.blk s H scope (compEnvC scope cl C X.env) fp) ifs t)
    (hi1 : ∀ (s : Shared) (H : Hp) (C : Addr) (cl : List (Str × Addr)) (fp : List Addr), IX (X.blk s H scope (compEnvC scope cl C X.env) fp) tg1 iter1 false src1)
    (hg1 : ∀ (s : Shared) (H : Hp) (C : Addr) (cl : List (Str × Addr)) (fp : List Addr), PG (X.blk s H scope (compEnvC scope cl C X.env) fp) tg1 g1) (htg1 : TgOk X.K vs1 g1 tf1)
    (ht1 : ∀ (s : Shared) (H : Hp) (C : Addr) (cl : List (Str × Addr)) (fp : List Addr), PIf (X.blk s H scope (compEnvC scope cl C X.env) fp) ifs1 t1)
    (he : ∀ (s : Shared) (H : Hp) (C : Addr) (cl : List (Str × Addr)) (fp : List Addr), PX (X.blk s H scope (compEnvC scope cl C X.env) fp) elt f)
    (hs : ∀ x, foldedSetIterable iter X.env x = pure x := by intro _; rfl) (hs1 : ∀ env x, foldedSetIterable iter1 env x = pure x := by intro _ _; rfl) :
    PF X (.ListComp elt [⟨tg, iter, ifs, 0⟩, ⟨tg1, iter1, ifs1, 0⟩] scope pos) (fLc2 (own.map (·.2)) src tf t vs1 src1 tf1 t1 f) := peImp (pe_lc2 (tt := tTs X.K t) (te := tX X.K f) (tt1 := tTs X.K t1) (wi1 := tI X.K false src1) hc hN hi ok hv hg ht hi1 hg1 ht1 he hs hs1) (lc2_go htg htg1)
theorem x_lc2 (hc : X.calm = true) (hN : X.N.Nodup) (hi : IX X tg iter true src) (ok : BlkOk X.N X.env.scope scope own) (hv : ∀ i ∈ vs1, i ∈ own.map (·.2))
    (hg : ∀ (s : Shared) (H : Hp) (C : Addr) (cl : List (Str × Addr)) (fp : List Addr), PG (X.blk s H scope (compEnvC scope cl C X.env) fp) tg g) (htg : TgOk X.K (own.map (·.2)) g tf)
    (ht : ∀ (s : Shared) (H : Hp) (C : Addr) (cl : List (Str × Addr)) (fp : List Addr), PIf (X.blk s H scope (compEnvC scope cl C X.env) fp) ifs t)
    (hi1 : ∀ (s : Shared) (H : Hp) (C : Addr) (cl : List (Str × Addr)) (fp : List Addr), IX (X.blk s H scope (compEnvC scope cl C X.env) fp) tg1 iter1 false src1)
    (hg1 : ∀ (s : Shared) (H : Hp) (C : Addr) (cl : List (Str × Addr)) (fp : List Addr), PG (X.blk s H scope (compEnvC scope cl C X.env) fp) tg1 g1) (htg1 : TgOk X.K vs1 g1 tf1)
    (ht1 : ∀ (s : Shared) (H : Hp) (C : Addr) (cl : List (Str × Addr)) (fp : List Addr), PIf (X.blk s H scope (compEnvC scope cl C X.env) fp) ifs1 t1)
    (he : ∀ (s : Shared) (H : Hp) (C : Addr) (cl : List (Str × Addr)) (fp : List Addr), PX (X.blk s H scope (compEnvC scope cl C X.env) fp) elt f)
    (hs : ∀ x, foldedSetIterable iter X.env x = pure x := by intro _; rfl) (hs1 : ∀ env x, foldedSetIterable iter1 env x = pure x := by intro _ _; rfl) :
    PX X (.ListComp elt [⟨tg, iter, ifs, 0⟩, ⟨tg1, iter1, ifs1, 0⟩] scope pos) (fLc2 (own.map (·.2)) src tf t vs1 src1 tf1 t1 f) := (f_lc2 hc hN hi ok hv hg htg ht hi1 hg1 htg1 ht1 he hs hs1).toX
theorem fLc2_list {vs vs1 : List Nat} : ∀ ρ d, fLc2 vs src tf t vs1 src1 tf1 t1 f ρ = some d → ∃ ds, d = .list ds := fun ρ d h => by
  obtain ⟨ds, _, h2⟩ := Option.bind_eq_some_iff.mp h
  obtain ⟨r, _, h4⟩ := Option.bind_eq_some_iff.mp h2
  split at h4
  · cases h4; exact ⟨_, rfl⟩
  · cases h4
theorem s_setLc2 {fr : Bool} {i : Nat} {y : Str} {py spos : Pos} (hc : X.calm = true) (hN : X.N.Nodup) (hy : X.N[i]? = some y) (hyl : X.env.scope.names.lookup y = some .local)
    (hsw : swapsWith (.ListComp elt [⟨tg, iter, ifs, 0⟩, ⟨tg1, iter1, ifs1, 0⟩] scope pos) (some (.Name y py)) spos.line X.env = pure true) (hi : IX X tg iter true src) (ok : BlkOk X.N X.env.scope scope own) (hv : ∀ i ∈ vs1, i ∈ own.map (·.2))
    (hg : ∀ (s : Shared) (H : Hp) (C : Addr) (cl : List (Str × Addr)) (fp : List Addr), PG (X.blk s H scope (compEnvC scope cl C X.env) fp) tg g) (htg : TgOk X.K (own.map (·.2)) g tf)
    (ht : ∀ (s : Shared) (H : Hp) (C : Addr) (cl : List (Str × Addr)) (fp : List Addr), PIf (X.blk s H scope (compEnvC scope cl C X.env) fp) ifs t)
    (hi1 : ∀ (s : Shared) (H : Hp) (C : Addr) (cl : List (Str × Addr)) (fp : List Addr), IX (X.blk s H scope (compEnvC scope cl C X.env) fp) tg1 iter1 false src1)
    (hg1 : ∀ (s : Shared) (H : Hp) (C : Addr) (cl : List (Str × Addr)) (fp : List Addr), PG (X.blk s H scope (compEnvC scope cl C X.env) fp) tg1 g1) (htg1 : TgOk X.K vs1 g1 tf1)
    (ht1 : ∀ (s : Shared) (H : Hp) (C : Addr) (cl : List (Str × Addr)) (fp : List Addr), PIf (X.blk s H scope (compEnvC scope cl C X.env) fp) ifs1 t1)
    (he : ∀ (s : Shared) (H : Hp) (C : Addr) (cl : List (Str × Addr)) (fp : List Addr), PX (X.blk s H scope (compEnvC scope cl C X.env) fp) elt f)
    (hs : ∀ x, foldedSetIterable iter X.env x = pure x := by intro _; rfl) (hs1 : ∀ env x, foldedSetIterable iter1 env x = pure x := by intro _ _; rfl) :
    SX X fr (.Assign [.Name y py] (.ListComp elt [⟨tg, iter, ifs, 0⟩, ⟨tg1, iter1, ifs1, 0⟩] scope pos) spos) (gSet i (fLc2 (own.map (·.2)) src tf t vs1 src1 tf1 t1 f)) := psImp (ps_setLc2 (tt := tTs X.K t) (te := tX X.K f) (tt1 := tTs X.K t1) (wi1 := tI X.K false src1) hc hN hy hyl hsw hi ok hv hg ht hi1 hg1 ht1 he hs hs1) fun E σ H ⟨H0, F0, F, ρ, o, S, hd, q⟩ => by
  obtain ⟨d, h1, rfl⟩ := Option.map_eq_some_iff.mp hd
  exact lc2_go htg htg1 σ H _ (toF fLc2_list σ H _ ⟨H0, F0, F, ρ, d, S, h1, fun H1 F1 v e1 r1 => q _ H1 F1 ((S.ext e1).set i r1) e1.f⟩)
end

/-! ### ghosts at a block's end -/
theorem s_frzs {X : Cx} {fr : Bool} {sts : List Stmt} {w : G} (i : Nat) (h : SXs X fr sts w) : SXs X fr sts (gFrz i w) := ⟨fun pins s σ H E I ⟨H0, F0, F, ρ, o, S, hd, q⟩ => by
  unfold gFrz at hd
  cases e : atR ρ i with
  | no => rw [e] at hd; cases hd
  | val d => rw [e] at hd; cases hd
  | bor d => rw [e] at hd; cases hd
  | own d =>
    rw [e] at hd
    obtain ⟨hi, x, hσ, p, ob, rfl, f0, h0, hp, r⟩ := S.at e (by simp)
    obtain ⟨u, I2, g1, g2, r2⟩ := frozen I S.sub hp f0 r
    exact h.run pins s σ _ E I2 ⟨H0, F0, _, _, o, S.freeze hi hσ g1 g2 r2, hd, nxMono g1 q⟩⟩

/-! ### x[i] = e of a list or a dict of the slot's own -/
theorem psOr {X : Cx} {st : Stmt} {t t' : TS} (h : PS X st t) (h' : PS X st t') : PS X st (fun E σ H => t E σ H ∨ t' E σ H) := ⟨fun pins s σ H E I q => by
  rcases q with q | q
  · exact h.run pins s σ H E I q
  · exact h'.run pins s σ H E I q⟩
def gPut (i : Nat) (k v : F1) : G := fun ρ => (v ρ).bind fun y => (k ρ).bind fun x => match atR ρ i, x with
  | .own (.list ds), .int n => (ixN ds.length n).map fun j => .nx (ρ.set i (.own (.list (ds.set j y))))
  | .own (.dict kvs), x => if keyOk x && notT kvs && decide (kvs.length < sizeLine) then some (.nx (ρ.set i (.own (.dict (putK kvs x y))))) else none
  | _, _ => none
section
variable {K : PySem.W.Frag} {F : Hp}
theorem RepK.append : ∀ {a b : List (L2.Key × V)} {c d : List (D × D)}, RepK K F a c → RepK K F b d → RepK K F (a ++ b) (c ++ d)
  | _, _, _, _, .nil, h => h
  | _, _, _, _, .cons x y r, h => .cons x y (RepK.append r h)
theorem RepK.map {k : L2.Key} {v : V} {d : D} (r : Rep K F v d) : ∀ {kvs : List (L2.Key × V)} {ds : List (D × D)}, RepK K F kvs ds → RepK K F (kvs.map fun kv => if kv.1 = k then (kv.1, v) else kv) (ds.map fun kv => if PyData.eqv kv.1 (keyD k) then (kv.1, d) else kv)
  | _, _, .nil => .nil
  | _, _, .cons (k := k') x y rr => by
    rw [List.map_cons, List.map_cons]
    by_cases e : k' = k
    · subst e
      simp only [eqv_keyD, decide_true, if_true]
      exact .cons x r (RepK.map r rr)
    · simp only [eqv_keyD, e, decide_false, if_false, Bool.false_eq_true]
      exact .cons x y (RepK.map r rr)
theorem RepK.put {k : L2.Key} {v : V} {d : D} {kvs : List (L2.Key × V)} {ds : List (D × D)} (rr : RepK K F kvs ds) (rk : Rep K F (kV k) (keyD k)) (r : Rep K F v d) : RepK K F (L2.putK kvs k v) (putK ds (keyD k) d) := by
  unfold L2.putK putK
  rw [valV_any, (rr.look (k := k)).2.2]
  split
  · exact rr.map r
  · exact rr.append (.cons rk r .nil)
end
section
variable {X : Cx} {fr : Bool} {e k : Expr} {f h : F1} {pos p1 p2 : Pos}
theorem s_put (hu : X.A.units + 64 < cLine) (i : Nat) {x : Str} (hk : PX X k h) (he : PX X e f) (hN : X.N[i]? = some x := by rfl) (hv : Vis X.env.scope x := by first | exact Or.inl rfl | exact Or.inr (Or.inl rfl) | exact Or.inr (Or.inr rfl)) (hd : (x == ("__debug__" : Str)) = false := by decide)
    (hcd : (x == ("__classdict__" : Str)) = false := by decide) (hs : swapsWith e (some (.Subscript (.Name x p1) k p2)) pos.line X.env = pure false := by rfl) (hs2 : swapsWithSole [.Subscript (.Name x p1) k p2] e pos.line X.env = pure false := by rfl)
    (hw : swappedStores [.Subscript (.Name x p1) k p2] e X.env = pure none := by rfl) (h1 : (assignEach [.Subscript (.Name x p1) k p2] X.env).map (·.2) = [assign (.Subscript (.Name x p1) k p2) X.env] := by rfl)
    (ha : ∀ v, assign (.Subscript (.Name x p1) k p2) X.env v = (do
      let ov ← holding [v] (eval (.Name x p1) X.env)
      let iv ← holding [v, ov] (eval k X.env)
      standAt p2
      holding [v, ov, iv] (setItem ov iv v)
      release [v, ov, iv] []) := by intro _; rfl) : SX X fr (.Assign [.Subscript (.Name x p1) k p2] e pos) (gPut i h f) :=
  psImp (psOr (ps_asg he (pg_sub (pv i hN hv hd hcd) hk set_list ha) hs2 hw h1) (ps_dput (by omega) (pv i hN hv hd hcd) hk he hs)) fun D σ H ⟨H0, F0, F, ρ, o, S, hd, q⟩ => by
  obtain ⟨y, hy, h2⟩ := Option.bind_eq_some_iff.mp hd
  obtain ⟨z, hz, h3⟩ := Option.bind_eq_some_iff.mp h2
  cases e : atR ρ i with
  | no => rw [e] at h3; cases z <;> cases h3
  | val d => rw [e] at h3; cases z <;> cases h3
  | bor d => rw [e] at h3; cases z <;> cases h3
  | own d =>
    rw [e] at h3
    obtain ⟨hi, w, hσ, p, ob, rfl, f0, h0, hp, r⟩ := S.at e (by simp)
    split at h3
    · rename_i ds n e'
      cases e'
      obtain ⟨j, h4, rfl⟩ := Option.map_eq_some_iff.mp h3
      refine .inl ⟨H0, F0, F, ρ, y, S, hy, fun H1 F1 v e1 r1 => ⟨_, hσ, H0, F0, F1, ρ, _, S.ext e1, hz, fun H2 F2 kv e2 r2 => ?_⟩⟩
      cases r2
      unfold RepO at r
      split at r
      · rename_i xs ds' e''
        cases e''
        refine ⟨p, xs, n, j, rfl, rfl, e2.h _ _ (e1.h _ _ hp), by rw [r.length]; exact h4, ?_⟩
        exact q σ _ F2 (((S.ext e1).ext e2).change (o' := .lst (xs.set j v)) hi hσ ((r.mono (e1.f.trans e2.f)).set j (r1.mono e2.f))) (e1.f.trans e2.f)
      · rename_i z; cases z
      · rename_i z; cases z
      · exact r.elim
    · rename_i kvs x' e'
      cases e'
      split at h3
      · rename_i hc
        cases h3
        simp only [Bool.and_eq_true, decide_eq_true_eq] at hc
        refine .inr ⟨H0, F0, F, ρ, y, S, hy, fun H1 F1 v e1 r1 => ⟨_, hσ, H0, F0, F1, ρ, _, S.ext e1, hz, fun H2 F2 kv e2 r2 => ?_⟩⟩
        unfold RepO at r
        split at r
        · rename_i z; cases z
        · rename_i ks ds' e''
          cases e''
          obtain ⟨kk, rfl, rfl⟩ := rep_key r2 hc.1.1
          have r' := r.mono (e1.f.trans e2.f)
          refine ⟨p, _, rfl, .inl ⟨ks, kk, e2.h _ _ (e1.h _ _ hp), rfl, by rw [r.length]; exact hc.2, rfl⟩, ?_⟩
          exact q σ _ F2 (((S.ext e1).ext e2).change (o' := .dK (L2.putK ks kk v)) hi hσ (r'.put r2 (r1.mono e2.f))) (e1.f.trans e2.f)
        · rename_i z
          cases z
          exact absurd (show false = true from hc.1.2) Bool.false_ne_true
        · exact r.elim
      · cases h3
    · cases h3
/-- x.append((y.pop(k), e)) -/
def gAppPop (i j : Nat) (k v : F1) : G := fun ρ => (k ρ).bind fun n => match atR ρ i, atR ρ j, n with
  | .own (.list ds), .own (.list es), .int n => if decide (0 ≤ n) && decide (n < es.length) && decide (ds.length < sizeLine) && decide (es.length < sizeLine) && decide (i ≠ j) then
      (v (ρ.set j (.own (.list (es.eraseIdx n.toNat))))).bind fun y => (es[n.toNat]?).map fun x => .nx ((ρ.set j (.own (.list (es.eraseIdx n.toNat)))).set i (.own (.list (ds ++ [.tuple [x, y]])))) else none
  | _, _, _ => none
theorem seqIx {n : Int} {m : Nat} (h0 : 0 ≤ n) (h1 : n < m) : seqIndex? n m = some n.toNat := by
  have := (ixN_seq (n := m) (i := n) (j := n.toNat) (by unfold ixN; rw [if_pos h0, if_pos h1])).1
  exact this
theorem Reps.erase {K : PySem.W.Frag} {F : Hp} : ∀ {xs : List V} {ds : List D} (i : Nat), Reps K F xs ds → Reps K F (xs.eraseIdx i) (ds.eraseIdx i)
  | _, _, _, .nil => .nil
  | _, _, 0, .cons _ r => r
  | _, _, i + 1, .cons a r => .cons a (Reps.erase i r)
theorem s_appPop (i j : Nat) {x y : Str} {kt : Nat} {py p3 pc pt cpos : Pos} (hk : PB X k h) (he : PX X e f) (hN : X.N[i]? = some x := by rfl) (hv : Vis X.env.scope x := by first | exact Or.inl rfl | exact Or.inr (Or.inl rfl) | exact Or.inr (Or.inr rfl)) (hd : (x == ("__debug__" : Str)) = false := by decide) (hcd : (x == ("__classdict__" : Str)) = false := by decide)
    (hN2 : X.N[j]? = some y := by rfl) (hv2 : Vis X.env.scope y := by first | exact Or.inl rfl | exact Or.inr (Or.inl rfl) | exact Or.inr (Or.inr rfl)) (hd2 : (y == ("__debug__" : Str)) = false := by decide) (hcd2 : (y == ("__classdict__" : Str)) = false := by decide)
    (hbase : attributeBase (.Name x p1) "append" X.env (eval (.Name x p1) X.env) = eval (.Name x p1) X.env := by rfl) (hbase2 : attributeBase (.Name y py) "pop" X.env (eval (.Name y py) X.env) = eval (.Name y py) X.env := by rfl)
    (hfew2 : ((backTo pc (starEach [k] X.env)).all (fun x => !x.1) && (backToKw pc (keywordEach [] X.env)).all (fun x => x.1.isSome) && decide (([k] : List Expr).length + ([] : List Keyword).length + (if ([] : List Keyword).isEmpty then 0 else 1) < 30)) = true := by rfl)
    (hline2 : (p3.endLine == pc.line) = true := by rfl) (g1 : starEach [k] X.env = (false, eval k X.env) :: starEach [] X.env := by rfl)
    (g2 : starEach [.Call (.Attribute (.Name y py) "pop" p3) [k] [] pc, e] X.env = (false, eval (.Call (.Attribute (.Name y py) "pop" p3) [k] [] pc) X.env) :: starEach [e] X.env := by rfl) (g3 : starEach [e] X.env = (false, eval e X.env) :: starEach [] X.env := by rfl)
    (hfew : ((backTo cpos (starEach [.Tuple [.Call (.Attribute (.Name y py) "pop" p3) [k] [] pc, e] kt pt] X.env)).all (fun x => !x.1) && (backToKw cpos (keywordEach [] X.env)).all (fun x => x.1.isSome) && decide (([.Tuple [.Call (.Attribute (.Name y py) "pop" p3) [k] [] pc, e] kt pt] : List Expr).length + ([] : List Keyword).length + (if ([] : List Keyword).isEmpty then 0 else 1) < 30)) = true := by rfl)
    (hline : (p2.endLine == cpos.line) = true := by rfl) (g4 : starEach [.Tuple [.Call (.Attribute (.Name y py) "pop" p3) [k] [] pc, e] kt pt] X.env = (false, eval (.Tuple [.Call (.Attribute (.Name y py) "pop" p3) [k] [] pc, e] kt pt) X.env) :: starEach [] X.env := by rfl)
    (hs : swapsWith (.Call (.Attribute (.Name x p1) "append" p2) [.Tuple [.Call (.Attribute (.Name y py) "pop" p3) [k] [] pc, e] kt pt] [] cpos) none pos.line X.env = pure false := by rfl) :
    SX X fr (.Expr (.Call (.Attribute (.Name x p1) "append" p2) [.Tuple [.Call (.Attribute (.Name y py) "pop" p3) [k] [] pc, e] kt pt] [] cpos) pos) (gAppPop i j h f) :=
  psImp (ps_expr (pe_bm PySem.F.plainAttrs_list PySem.F.slot_list_append PySem.F.type_list_append mt_append (pv i hN hv hd hcd) (pa_cons (pe_tup (pa_cons (pe_bm PySem.F.plainAttrs_list PySem.F.slot_list_pop PySem.F.type_list_pop mt_popAt (pv j hN2 hv2 hd2 hcd2) (pa_cons hk pa_nil g1) hbase2 hfew2 hline2 g1) (pa_cons he pa_nil g3) g2)) pa_nil g4) hbase hfew hline g4) hs) fun D σ H ⟨H0, F0, F, ρ, o, S, hd, q⟩ => by
  obtain ⟨nv, hn, h2⟩ := Option.bind_eq_some_iff.mp hd
  split at h2
  · rename_i _ ds es n ei ej
    split at h2
    · rename_i hc
      simp only [Bool.and_eq_true, decide_eq_true_eq] at hc
      obtain ⟨⟨⟨⟨c0, c1⟩, c2⟩, c4⟩, c3⟩ := hc
      obtain ⟨yv, h3, h4⟩ := Option.bind_eq_some_iff.mp h2
      obtain ⟨xv, h5, rfl⟩ := Option.map_eq_some_iff.mp h4
      obtain ⟨ri, wi, σi, p, ob, rfl, fi, hi0, hpi, rp⟩ := S.at ei (by simp)
      obtain ⟨rj, wj, σj, q', ob', rfl, fj, hj0, hpj, rq⟩ := S.at ej (by simp)
      have npq : p ≠ q' := fun z => by
        subst z
        exact S.dj i j _ _ p c3 ri rj σi σj
      unfold RepO at rp rq
      split at rp
      case h_2 => rename_i z; cases z
      case h_3 => rename_i z; cases z
      case h_4 => exact rp.elim
      rename_i xs ds' e'
      cases e'
      split at rq
      case h_2 => rename_i z; cases z
      case h_3 => rename_i z; cases z
      case h_4 => exact rq.elim
      rename_i ys es' e'
      cases e'
      refine ⟨_, σi, .inl ⟨rfl, _, .of hpi⟩, _, σj, .inl ⟨rfl, _, .of hpj⟩, H0, F0, F, ρ, _, S, hn, fun H1 F1 kv e1 r1 => ?_⟩
      cases r1.int
      have rq1 := rq.mono e1.f
      obtain ⟨xw, h6, rx⟩ := rq1.get h5
      have S1 := S.ext e1
      have S2 := S1.change (o' := .lst (ys.eraseIdx n.toNat)) (d' := .list (es.eraseIdx n.toNat)) rj σj (rq1.erase n.toNat)
      refine ⟨q', ys, n, n.toNat, xw, rfl, rfl, e1.h _ _ hpj, ?_, ?_, ?_, h6, ?_⟩
      · omega
      · rw [sizeLine_eq] at c4
        omega
      · rw [rq.length]; exact seqIx c0 c1
      · refine ⟨H0, F0, F1, _, yv, S2, h3, fun H2 F2 yw e2 r2 => ⟨by show 2 ≤ sizeLine; rw [sizeLine_eq]; omega, fun t ht => ?_⟩⟩
        have rx2 := rx.mono e2.f
        have e3 := Ext.laid e2.sub (.tup [xw, yw]) ht
        have S3 := (S2.ext e2).ext e3
        have hp3 : (upd H2 t (.tup [xw, yw])) p = some (.lst xs) := by
          refine e3.h _ _ (e2.h _ _ ?_)
          rw [upd_ne npq]
          exact e1.h _ _ hpi
        refine ⟨p, xs, .ref t, rfl, rfl, hp3, by rw [rp.length]; exact c2, ?_⟩
        have ri3 : (ρ.set j (.own (.list (es.eraseIdx n.toNat))))[i]? = some (.own (.list ds)) := by
          rw [List.getElem?_set_ne (Ne.symm c3)]; exact ri
        have rt : Rep X.K (upd F2 t (.tup [xw, yw])) (.ref t) (.tuple [xv, yv]) := .tup upd_same (.cons (rx2.mono e3.f) (.cons (r2.mono e3.f) .nil))
        have rp3 : RepO X.K (upd F2 t (.tup [xw, yw])) (.lst (xs ++ [.ref t])) (.list (ds ++ [.tuple [xv, yv]])) := ((((rp.mono e1.f).mono e2.f).mono e3.f)).snoc rt
        exact q σ _ _ (S3.change (o' := .lst (xs ++ [.ref t])) ri3 σi rp3) ((e1.f.trans e2.f).trans e3.f)
    · cases h2
  · cases h2
end
end Pu
set_option maxRecDepth 100000
/-! Defs of the text, their promises, the law's end. -/
namespace Pu
open PySem PySem.Spec PyProof.Rows L2

theorem hr65 {k : Nat} {A : Around} (hr : Room k A) : A.units + 64 + 1 < cLine := by
  have := hr.un
  omega
/-- no built-in that the text calls is a name of the module -/
structure Bi (mg : Str → Option Value) : Prop where
  len : mg "len" = none
  isinstance : mg "isinstance" = none
  int : mg "int" = none
  bool : mg "bool" = none
  str : mg "str" = none
  tuple : mg "tuple" = none
  list : mg "list" = none
  sum : mg "sum" = none
  max : mg "max" = none
  min : mg "min" = none
  all : mg "all" = none
  any : mg "any" = none
  sorted : mg "sorted" = none
  range : mg "range" = none
  enumerate : mg "enumerate" = none
  zip : mg "zip" = none
  set : mg "set" = none
  dict : mg "dict" = none
/-- the def st stands in the module by the name x -/
def Df (K : PySem.W.Frag) (mg : Str → Option Value) (x : Str) (st : Stmt) (ps : List Str) : Prop := ∃ (f : Addr) (fd : FuncData), L2.Fun K x x st f fd ∧ mg x = some (.ref f) ∧ Binds K fd ps []
/-- it keeps its promise at level k -/
def Ok (P : Program) (w : World) (K : PySem.W.Frag) (mg : Str → Option Value) (base : Heap) (x : Str) (k : Nat) (ps : List Str) (fr : Bool) (ms : List Bool) (m : Fn) : Prop :=
  ∃ (f : Addr) (fd : FuncData), mg x = some (.ref f) ∧ PySem.W.keepIn K (.ref f) = true ∧ Binds K fd ps [] ∧ FnOk P w K mg base CX0 k f fd ps (spQ K fr ms m)
section
variable {P : Program} {w : World} {K : PySem.W.Frag} {mg : Str → Option Value} {base : Heap} {x : Str} {st : Stmt} {N ps : List Str} {j k : Nat} {fr : Bool} {ms : List Bool} {m : Fn} {g : G}
theorem Ok.mono (o : Ok P w K mg base x j ps fr ms m) (h : j ≤ k) : Ok P w K mg base x k ps fr ms m := by
  obtain ⟨f, fd, h1, h2, h3, h4⟩ := o
  exact ⟨f, fd, h1, h2, h3, h4.mono h⟩
/-- a def's promise by its body's walk -/
theorem ok_of (D : Df K mg x st ps) (S : FnScope N ps (defScope st)) (hl : ms.length = ps.length)
    (hb : ∀ (f : Addr) (cdv : Value) (A : Around) (outer : List Env) (s : Shared) (H : Hp) (E : XK), Room k (A.deeper (envOfC x (defScope st) s.heap.objs.size f cdv)) → SXs (cxOf CX0 P w K mg base N x (defScope st) f cdv A outer s H E).nox fr (defBody st) g) :
    Ok P w K mg base x (k + 1) ps fr ms (runQ fr N.length ms g) := by
  obtain ⟨f, fd, Fu, hm, b⟩ := D
  exact ⟨f, fd, hm, Fu.kp, b, fn_ok Fu S hl rfl (hb f)⟩
theorem ok_none (D : Df K mg x st ps) : Ok P w K mg base x k ps fr ms fun _ => none := by
  obtain ⟨f, fd, Fu, hm, b⟩ := D
  exact ⟨f, fd, hm, Fu.kp, b, fn_none⟩
end
section
variable {X : Cx} {k : Nat} {ps : List Str} {ms : List Bool} {m : Fn} {x : Str} {p pos : Pos} {e : Expr} {es : List Expr} {fs : List F1}
theorem o_call (O : Ok X.prog X.w X.K X.mg X.base x k ps false ms m) (hr : Room k X.A) (hg : Gl X x) (ha : PAr X (e :: es) ms (fArgs fs))
    (hdb : (x == ("__debug__" : Str)) = false := by decide) (h1 : starEach (e :: es) X.env = (false, eval e X.env) :: starEach es X.env := by rfl) (hpl : (backTo pos (starEach es X.env)).any (·.1) = false := by rfl) :
    PX X (.Call (.Name x p) (e :: es) [] pos) (fCall m fs) := by
  obtain ⟨f, fd, hm, kp, b, G⟩ := O
  exact c_call G hr hg hm kp b ha hdb h1 hpl
theorem o_callF (O : Ok X.prog X.w X.K X.mg X.base x k ps true ms m) (hr : Room k X.A) (hg : Gl X x) (ha : PAr X (e :: es) ms (fArgs fs))
    (hdb : (x == ("__debug__" : Str)) = false := by decide) (h1 : starEach (e :: es) X.env = (false, eval e X.env) :: starEach es X.env := by rfl) (hpl : (backTo pos (starEach es X.env)).any (·.1) = false := by rfl) :
    PF X (.Call (.Name x p) (e :: es) [] pos) (fCall m fs) := by
  obtain ⟨f, fd, hm, kp, b, G⟩ := O
  exact c_callF G hr hg hm kp b ha hdb h1 hpl
end
/-- from what the top has left -/
theorem df_mk {K : PySem.W.Frag} {h : Heap} {mg : Str → Option Value} {x : Str} {st : Stmt} {ps : List Str} {f : Addr} {oc : Value} {od an : Option Addr} {osl : Array (Option Value)} {kV doc pm cdv ct : Value} (X : K.In h) (G : h.Ns mainGlobals mg)
    (b : ∀ (kV doc pm : Value) (an : Option Addr) (cdv ct : Value) (us : List Value), us.length = ps.length → bindArgs (PySem.W.fnOf x x (defArgs st) (defBody st) (defScope st) .none kV doc pm an cdv ct) ⟨us, []⟩ = pure (ps.zip us))
    (a : PySem.W.nsIn K mainGlobals x = some (some (.ref f))) (l : K.lookup f = some ⟨oc, od, .func (PySem.W.fnOf x x (defArgs st) (defBody st) (defScope st) .none kV doc pm an cdv ct), osl⟩)
    (c : PySem.W.codeIn K cdv x = true) (k : PySem.W.keepIn K (.ref f) = true) : Df K mg x st ps :=
  have F := fun_mk l c k
  ⟨f, _, F, PySem.W.mg_of X G a, F.binds b⟩
/-- the law's def, at the address that the caller takes -/
theorem law_mk {l : PySem.W.OpenLaw} {w : World} {K : PySem.W.Frag} {h : Heap} {mg : Str → Option Value} {fa : Addr} {L : Nat} {m : Fn} (hfa : mg "law" = some (.ref fa)) {st : Stmt} (D : Df K mg "law" st ["script"])
    (hb : ∀ fd : FuncData, Binds K fd ["script"] [] → L2.Fun K "law" "law" st fa fd → ∀ (s : Shared) (v : Value), BindsTo s fd ⟨[v], []⟩ [("script", v)])
    (O : ∀ base : Heap, K.In base → base.Ns mainGlobals mg → Ok l.prog w K mg base "law" L ["script"] false [false] m)
    (one : ∀ base f fd, mg "law" = some (.ref f) → L2.Fun K "law" "law" st f fd → Ok l.prog w K mg base "law" L ["script"] false [false] m → FnOk l.prog w K mg base CX0 L f fd ["script"] (spQ K false [false] m)) :
    ∃ fd : FuncData, (∀ (s : Shared) (v : Value), BindsTo s fd ⟨[v], []⟩ [("script", v)]) ∧ ∀ base : Heap, K.In base → base.Ns mainGlobals mg → FnOk l.prog w K mg base CX0 L fa fd ["script"] (spQ K false [false] m) := by
  obtain ⟨f, fd, Fu, hm, b⟩ := D
  have e := hfa.symm.trans hm
  cases e
  exact ⟨fd, hb fd b Fu, fun base h1 h2 => one base fa fd hm Fu (O base h1 h2)⟩
/-- the law's promise where its mirror says True of every script -/
theorem law_sp {K : PySem.W.Frag} {H : Hp} {a : Addr} {ns : List Int} {m : Fn} (hS : SqL K H a (ns.map V.int)) (hm : m [.list (ns.map .int)] = some (.bool true)) : spQ K false [false] m [.ref a] H (fun v _ => v = .bl true) fun _ _ _ => False := by
  refine ⟨H, [.list (ns.map .int)], .bool true, Same.refl H, .val (.lst hS reps_ints) .nil, hm, fun H' F' v e r => ?_⟩
  cases r
  rfl
end Pu
set_option maxRecDepth 100000
/-! Mirrors of the defs of k01, printed by gen.py. -/
namespace Mi
open PySem Pu
def G_is_number : G := gRet (fAnd (f1 (isInst .int) (bVar 0)) (fAnd (f1 notD (f1 (isInst .bool) (bVar 0))) (fChain leD leD (bVar 1) (bVar 0) (bVar 2))))
def m_is_number : Fn := runQ false 3 [false, false, false] (G_is_number)
def G_is_name : G := gSeq (gSet 1 (fK (.str "abcdefghijklmnopqrstuvwxyz"))) (gRet (fAnd (f1 (isInst .str) (bVar 0)) (fAnd (fChain leD leD (fK (.int 1)) (fCall (m1 lenD) [bVar 0]) (fK (.int 8))) (fCall (m1 allD) [fLc [2] (sSeq (fVar 0)) (gN 2) (tYes) (f2 inD (bVar 2) (bVar 1))]))))
def m_is_name : Fn := runQ false 3 [false] (G_is_name)
def G_is_strand (m_is_name : Fn) (m_is_number : Fn) : G := gRet (fAnd (f1 (isInst .tuple) (bVar 0)) (fAnd (f2 eqD (fCall (m1 lenD) [bVar 0]) (fK (.int 2))) (fAnd (fCall m_is_name [f2 ixD (bVar 0) (fK (.int 0))]) (fCall m_is_number [f2 ixD (bVar 0) (fK (.int 1)), fK (.int 1), fK (.int 99)]))))
def m_is_strand : Fn := runQ false 1 [false] (G_is_strand m_is_name m_is_number)
def G_is_tied_so (m_is_strand : Fn) (m_is_tied_so : Fn) : G := gSeq (gIf (tOf (fCall m_is_strand [fVar 0])) (gRet (fK (.bool true))) (gSkip)) (gRet (fAnd (f1 (isInst .tuple) (bVar 0)) (fAnd (f2 gtD (fCall (m1 lenD) [bVar 0]) (fK (.int 1))) (fCall (m1 allD) [fLc [1] (sSeq (fVar 0)) (gN 1) (tYes) (fCall m_is_tied_so [fVar 1])]))))
def mf_is_tied_so : Nat → Fn
  | 0 => fun _ => none
  | n + 1 => runQ false 2 [false] (G_is_tied_so m_is_strand (mf_is_tied_so n))
def m_is_tied_so : Fn := mf_is_tied_so 24
def G_is_one : G := gRet (f1 (isInst .str) (f2 ixD (bVar 0) (fK (.int 0))))
def m_is_one : Fn := runQ false 1 [false] (G_is_one)
def G_strands_of (m_is_one : Fn) (m_strands_of : Fn) : G := gSeq (gIf (tOf (fCall m_is_one [fVar 0])) (gRet (fLst [fVar 0])) (gSkip)) (gRet (fLc2 [1, 2] (sSeq (fVar 0)) (gN 1) tYes [2] (sSeq (fCall m_strands_of [fVar 1])) (gN 2) tYes (fVar 2)))
def mf_strands_of : Nat → Fn
  | 0 => fun _ => none
  | n + 1 => runQ false 3 [false] (G_strands_of m_is_one (mf_strands_of n))
def m_strands_of : Fn := mf_strands_of 24
def G_is_cord (m_is_tied_so : Fn) (m_strands_of : Fn) : G := gSeq (gIf (tNot (tOf (fCall m_is_tied_so [fVar 0]))) (gRet (fK (.bool false))) (gSkip)) (gSeq (gSet 1 (fLc [2, 3] (sSeq (fCall m_strands_of [fVar 0])) (gT2 2 3) (tYes) (fVar 2))) (gRet (fAnd (f2 leD (fCall (m1 lenD) [bVar 1]) (fK (.int 8))) (f2 eqD (f1 lenSetD (bVar 1)) (fCall (m1 lenD) [bVar 1])))))
def m_is_cord : Fn := runQ false 4 [false] (G_is_cord m_is_tied_so m_strands_of)
def G_law_cell : G := gSeq (gIf (tOf (f2 ltD (bVar 1) (fCall (m1 lenD) [bVar 0]))) (gRet (f2 ixD (bVar 0) (bVar 1))) (gSkip)) (gSeq (gIf (tOf (f2 eqD (fCall (m1 lenD) [bVar 0]) (fK (.int 0)))) (gRet (f2 addD (f2 mulD (fK (.int 7919)) (bVar 1)) (fK (.int 101)))) (gSkip)) (gRet (f2 addD (f2 modD (f2 ixD (bVar 0) (f2 modD (bVar 1) (fCall (m1 lenD) [bVar 0]))) (fK (.int 1000003))) (f2 mulD (fK (.int 7919)) (bVar 1)))))
def m_law_cell : Fn := runQ false 2 [false, false] (G_law_cell)
def B_law_draws_1 : G := gSeq (gSet 9 (f2 mulD (f2 modD (bVar 5) (f2 ixD (bVar 4) (f2 modD (bVar 8) (fK (.int 8))))) (f2 addD (fK (.int 48271)) (f2 mulD (f2 mulD (fK (.int 2)) (bVar 8)) (bVar 8))))) (gSeq (gSet 9 (f2 addD (f2 addD (bVar 9) (f2 mulD (f2 mulD (fK (.int 7919)) (f2 addD (bVar 8) (fK (.int 1)))) (f2 addD (bVar 8) (fK (.int 1))))) (f2 mulD (fK (.int 104729)) (bVar 1)))) (gSeq (gSet 9 (f2 modD (bVar 9) (f2 ixD (bVar 4) (f2 modD (f2 addD (f2 mulD (fK (.int 3)) (bVar 8)) (bVar 1)) (fK (.int 8)))))) (gSeq (gSet 9 (f2 modD (f2 mulD (f2 mulD (bVar 9) (bVar 9)) (bVar 9)) (f2 ixD (bVar 4) (f2 modD (f2 addD (bVar 8) (fK (.int 5))) (fK (.int 8)))))) (gSeq (gIf (tOf (f2 gtD (bVar 6) (fK (.int 0)))) (gSet 9 (fVar 6)) (gSkip)) (gSeq (gApp 7 (f2 modD (bVar 9) (bVar 3))) (gSet 6 (f2 divD (bVar 6) (bVar 3))))))))
def G_law_draws (m_law_cell : Fn) : G := gSeq (gSet 4 (fTup [fK (.int 2147483647), fK (.int 2147483629), fK (.int 2147483587), fK (.int 2147483579), fK (.int 2147483563), fK (.int 2147483549), fK (.int 2147483543), fK (.int 2147483497)])) (gSeq (gSet 5 (fCall m_law_cell [fVar 0, fVar 1])) (gSeq (gSet 6 (fK (.int 0))) (gSeq (gIf (tOf (f2 geD (bVar 5) (f2 powD (fK (.int 10)) (fK (.int 18))))) (gSet 6 (fVar 5)) (gSkip)) (gSeq (gOwn 7 (fLst [])) (gSeq (gFor (sRng (fVar 2)) (gN 8) (B_law_draws_1)) (gFrz 7 (gRet (fVar 7))))))))
def m_law_draws : Fn := runQ false 10 [false, false, false, false] (G_law_draws m_law_cell)
def G_law_number : G := gRet (fAnd (f1 (isInst .int) (bVar 0)) (fAnd (f1 notD (f1 (isInst .bool) (bVar 0))) (fChain leD leD (bVar 1) (bVar 0) (bVar 2))))
def m_law_number : Fn := runQ false 3 [false, false, false] (G_law_number)
def G_law_truly : G := gRet (fAnd (f1 (isInst .bool) (bVar 0)) (f2 eqD (bVar 0) (bVar 1)))
def m_law_truly : Fn := runQ false 2 [false, false] (G_law_truly)
def B_law_places_1 (m_law_places : Fn) : G := gSet 1 (f2 addD (bVar 1) (fLc [4] (sSeq (fCall m_law_places [fVar 3])) (gN 4) (tYes) (f2 addD (fTup [fVar 2]) (bVar 4))))
def G_law_places (m_law_places : Fn) : G := gSeq (gSet 1 (fLst [fTup []])) (gSeq (gIf (tOf (f1 (isInst .seq) (bVar 0))) (gFor (sEnum (fVar 0)) (gT2 2 3) (B_law_places_1 m_law_places)) (gSkip)) (gRet (fVar 1)))
def mf_law_places : Nat → Fn
  | 0 => fun _ => none
  | n + 1 => runQ false 5 [false] (G_law_places (mf_law_places n))
def m_law_places : Fn := mf_law_places 24
def G_law_other : G := gSeq (gSet 2 (fLst [fK .none, fK (.bool true), fK (.bool false), fK (.int 7), f2 subD (fK (.int 0)) (fK (.int 1)), f2 powD (fK (.int 10)) (fK (.int 39)), fK (.str "0"), fK (.str ""), fTup [], fLst [], fTup [fVar 0], fLst [fVar 0], fTup [fK (.int 0)], fTup [fK (.int 1), fK (.int 0)], fK (.int 1), fK (.int 0)])) (gSeq (gIf (tAnd (tOf (f1 (isInst .int) (bVar 0))) (tNot (tOf (f1 (isInst .bool) (bVar 0))))) (gSet 2 (f2 addD (fLst [f2 addD (bVar 0) (fK (.int 1)), f2 subD (bVar 0) (fK (.int 1)), fCall (m1 boolD) [bVar 0], f2 addD (bVar 0) (fK (.int 1)), f2 subD (bVar 0) (fK (.int 1)), fCall (m1 boolD) [bVar 0]]) (bVar 2))) (gSkip)) (gSeq (gIf (tOf (f1 (isInst .seq) (bVar 0))) (gSet 2 (f2 addD (fLst [fCall (m1 lstD) [bVar 0], fCall (m1 tupD) [bVar 0], fCall (m1 tupD) [f1 revD (bVar 0)], fCall (m1 lstD) [bVar 0]]) (bVar 2))) (gSkip)) (gRet (f2 ixD (bVar 2) (f2 modD (f2 ixD (bVar 1) (fK (.int 1))) (fCall (m1 lenD) [bVar 2]))))))
def m_law_other : Fn := runQ false 3 [false, false] (G_law_other)
def G_law_shifted : G := gSeq (gSet 3 (f2 modD (f2 ixD (bVar 2) (fK (.int 2))) (fCall (m1 lenD) [bVar 0]))) (gSeq (gIf (tOf (f2 eqD (f2 modD (f2 ixD (bVar 2) (fK (.int 0))) (fK (.int 3))) (fK (.int 0)))) (gRet (f2 addD (fCut (bVar 0) (none) (some (bVar 1))) (fCut (bVar 0) (some (f2 addD (bVar 1) (fK (.int 1)))) (none)))) (gSkip)) (gSeq (gIf (tOf (f2 eqD (f2 modD (f2 ixD (bVar 2) (fK (.int 0))) (fK (.int 3))) (fK (.int 1)))) (gRet (f2 addD (f2 addD (fCut (bVar 0) (none) (some (bVar 3))) (fLst [f2 ixD (bVar 0) (bVar 1)])) (fCut (bVar 0) (some (bVar 3)) (none)))) (gSkip)) (gSeq (gSet 4 (f2 addD (fCut (bVar 0) (none) (some (bVar 1))) (fCut (bVar 0) (some (f2 addD (bVar 1) (fK (.int 1)))) (none)))) (gRet (f2 addD (f2 addD (fCut (bVar 4) (none) (some (bVar 3))) (fLst [f2 ixD (bVar 0) (bVar 1)])) (fCut (bVar 4) (some (bVar 3)) (none)))))))
def m_law_shifted : Fn := runQ false 5 [false, false, false] (G_law_shifted)
def G_law_put (m_law_other : Fn) (m_law_shifted : Fn) (m_law_put : Fn) : G := gSeq (gIf (tOf (f2 eqD (bVar 1) (fTup []))) (gRet (fCall m_law_other [fVar 0, fVar 2])) (gSkip)) (gSeq (gOwn 3 (fCall (m1 lstD) [bVar 0])) (gSeq (gIf (tAnd (tOf (f2 eqD (fCall (m1 lenD) [bVar 1]) (fK (.int 1)))) (tOf (f2 eqD (f2 modD (f2 ixD (bVar 2) (fK (.int 3))) (fK (.int 2))) (fK (.int 0))))) (gFrz 3 (gSet 3 (fCall m_law_shifted [fVar 3, f2 ixD (bVar 1) (fK (.int 0)), fVar 2]))) (gSeq (gPut 3 (f2 ixD (bVar 1) (fK (.int 0))) (fCall m_law_put [f2 ixD (bVar 3) (f2 ixD (bVar 1) (fK (.int 0))), fCut (bVar 1) (some (fK (.int 1))) (none), fVar 2])) (gFrz 3 (gSkip)))) (gRet (fIf (tOf (f1 (isInst .list) (bVar 0))) (fVar 3) (fCall (m1 tupD) [bVar 3])))))
def mf_law_put : Nat → Fn
  | 0 => fun _ => none
  | n + 1 => runQ false 4 [false, false, false] (G_law_put m_law_other m_law_shifted (mf_law_put n))
def m_law_put : Fn := mf_law_put 24
def G_law_bent (m_law_places : Fn) (m_law_put : Fn) : G := gSeq (gSet 2 (fCall m_law_places [fVar 0])) (gRet (fCall m_law_put [fVar 0, f2 ixD (bVar 2) (f2 modD (f2 ixD (bVar 1) (fK (.int 4))) (fCall (m1 lenD) [bVar 2])), fVar 1]))
def m_law_bent : Fn := runQ false 3 [false, false] (G_law_bent m_law_places m_law_put)
def G_law_thing (m_law_thing : Fn) : G := gSeq (gSet 2 (f2 modD (f2 ixD (bVar 0) (bVar 1)) (fK (.int 12)))) (gSeq (gSet 3 (f2 ixD (fLst [f2 subD (f2 modD (f2 ixD (bVar 0) (f2 addD (bVar 1) (fK (.int 1)))) (fK (.int 12))) (fK (.int 2)), f2 subD (fK (.int 0)) (f2 powD (fK (.int 10)) (fK (.int 39))), f2 powD (fK (.int 10)) (fK (.int 39))]) (f2 modD (f2 ixD (bVar 0) (f2 addD (bVar 1) (fK (.int 2)))) (fK (.int 3))))) (gSeq (gIf (tOr (tOf (f2 ltD (bVar 2) (fK (.int 4)))) (tOf (f2 gtD (bVar 1) (fK (.int 3))))) (gRet (fVar 3)) (gSkip)) (gSeq (gIf (tOf (f2 ltD (bVar 2) (fK (.int 7)))) (gRet (f2 ixD (fLst [fK (.bool true), fK (.bool false), fK .none]) (f2 subD (bVar 2) (fK (.int 4))))) (gSkip)) (gSeq (gIf (tOf (f2 ltD (bVar 2) (fK (.int 9)))) (gRet (f2 ixD (fLst [fK (.str ""), fK (.str "0"), fK (.str "1-0"), fK (.str "hall"), fK (.str "3"), fK (.str "none"), fK (.str "1:"), fK (.str "~")]) (f2 modD (f2 ixD (bVar 0) (f2 addD (bVar 1) (fK (.int 3)))) (fK (.int 8))))) (gSkip)) (gSeq (gSet 4 (fLc [5] (sRng (f2 modD (f2 ixD (bVar 0) (f2 addD (bVar 1) (fK (.int 4)))) (fK (.int 4)))) (gN 5) (tYes) (fCall m_law_thing [f2 addD (fCut (bVar 0) (some (bVar 5)) (none)) (fCut (bVar 0) (none) (some (bVar 5))), f2 addD (bVar 1) (fK (.int 1))]))) (gRet (fIf (tOf (f2 eqD (bVar 2) (fK (.int 9)))) (fVar 4) (fCall (m1 tupD) [bVar 4]))))))))
def mf_law_thing : Nat → Fn
  | 0 => fun _ => none
  | n + 1 => runQ false 6 [false, false] (G_law_thing (mf_law_thing n))
def m_law_thing : Fn := mf_law_thing 24
def B_law_tied_1 : G := gSeq (gSet 4 (fCall (m2 min2D) [fCall (m1 lenD) [bVar 2], f2 addD (fK (.int 2)) (f2 modD (f2 ixD (bVar 1) (f2 modD (bVar 3) (fCall (m1 lenD) [bVar 1]))) (f2 ixD (fLst [fK (.int 1), fK (.int 2), fK (.int 7)]) (f2 modD (f2 ixD (bVar 1) (fK (.int 0))) (fK (.int 3)))))])) (gSeq (gSet 5 (f2 modD (f2 ixD (bVar 1) (f2 modD (f2 addD (bVar 3) (fK (.int 1))) (fCall (m1 lenD) [bVar 1]))) (f2 addD (f2 subD (fCall (m1 lenD) [bVar 2]) (bVar 4)) (fK (.int 1))))) (gSeq (gSet 6 (f2 addD (bVar 5) (bVar 4))) (gSeq (gSet 2 (f2 addD (f2 addD (fCut (bVar 2) (none) (some (bVar 5))) (fLst [fCall (m1 tupD) [fCut (bVar 2) (some (bVar 5)) (some (bVar 6))]])) (fCut (bVar 2) (some (bVar 6)) (none)))) (gSet 3 (f2 addD (bVar 3) (fK (.int 2)))))))
def G_law_tied : G := gSeq (gPar 2 3 false false (fCall (m1 lstD) [bVar 0]) (fK (.int 0))) (gSeq (gWhile 100000 (tOf (f2 gtD (fCall (m1 lenD) [bVar 2]) (fK (.int 1)))) (B_law_tied_1)) (gRet (f2 ixD (bVar 2) (fK (.int 0)))))
def m_law_tied : Fn := runQ false 7 [false, false] (G_law_tied)
def B_law_cord_1 : G := gSeq (gSet 6 (f2 ixD (bVar 0) (f2 addD (fK (.int 2)) (bVar 5)))) (gSeq (gSet 7 (f2 ixD (fLst [f2 addD (fK (.int 1)) (f2 modD (bVar 6) (fK (.int 99))), f2 addD (fK (.int 1)) (f2 modD (bVar 6) (fK (.int 4))), f2 ixD (fTup [fK (.int 1), fK (.int 2), fK (.int 4), fK (.int 8), fK (.int 16), fK (.int 32), fK (.int 64), fK (.int 99)]) (f2 modD (bVar 6) (fK (.int 8))), f2 addD (fK (.int 1)) (f2 modD (bVar 6) (fK (.int 12)))]) (f2 modD (f2 ixD (bVar 0) (fK (.int 1))) (fK (.int 4))))) (gAppPop 4 3 (f2 modD (f2 divD (bVar 6) (fK (.int 100))) (fCall (m1 lenD) [bVar 3])) (fVar 7)))
def G_law_cord (m_law_tied : Fn) : G := gSeq (gSet 2 (f2 ixD (fLst [fVar 1, f2 addD (fK (.int 1)) (f2 modD (f2 divD (f2 ixD (bVar 0) (fK (.int 0))) (fK (.int 4))) (bVar 1)), fCall (m2 min2D) [fK (.int 3), bVar 1], fCall (m2 min2D) [fK (.int 5), bVar 1]]) (f2 modD (f2 ixD (bVar 0) (fK (.int 0))) (fK (.int 4))))) (gSeq (gOwn 3 (fLst [fK (.str "ax"), fK (.str "bo"), fK (.str "cy"), fK (.str "dot"), fK (.str "elk"), fK (.str "fig"), fK (.str "gnu"), fK (.str "hop")])) (gSeq (gOwn 4 (fLst [])) (gSeq (gFor (sRng (fVar 2)) (gN 5) (B_law_cord_1)) (gFrz 4 (gRet (fCall m_law_tied [fVar 4, fCut (bVar 0) (some (fK (.int 10))) (some (fK (.int 26)))]))))))
def m_law_cord : Fn := runQ false 8 [false, false] (G_law_cord m_law_tied)
def G_law_is_strand (m_law_number : Fn) : G := gSeq (gIf (tOr (tNot (tOf (f1 (isInst .tuple) (bVar 0)))) (tOr (tOf (f2 neD (fCall (m1 lenD) [bVar 0]) (fK (.int 2)))) (tNot (tOf (f1 (isInst .str) (f2 ixD (bVar 0) (fK (.int 0)))))))) (gRet (fK (.bool false))) (gSkip)) (gSeq (gIf (tOr (tNot (tOf (fChain leD leD (fK (.int 1)) (fCall (m1 lenD) [f2 ixD (bVar 0) (fK (.int 0))]) (fK (.int 8))))) (tOf (f2 neD (fLc [1] (sSeq (f2 ixD (bVar 0) (fK (.int 0)))) (gN 1) (tOf (f2 notInD (bVar 1) (fK (.str "abcdefghijklmnopqrstuvwxyz")))) (fVar 1)) (fLst [])))) (gRet (fK (.bool false))) (gSkip)) (gRet (fCall m_law_number [f2 ixD (bVar 0) (fK (.int 1)), fK (.int 1), fK (.int 99)])))
def m_law_is_strand : Fn := runQ false 2 [false] (G_law_is_strand m_law_number)
def B_law_names_of_1 (m_law_names_of : Fn) : G := gSet 1 (f2 addD (bVar 1) (fCall m_law_names_of [fVar 2]))
def G_law_names_of (m_law_is_strand : Fn) (m_law_names_of : Fn) : G := gSeq (gIf (tOf (fCall m_law_is_strand [fVar 0])) (gRet (fLst [f2 ixD (bVar 0) (fK (.int 0))])) (gSkip)) (gSeq (gIf (tOr (tNot (tOf (f1 (isInst .tuple) (bVar 0)))) (tOf (f2 ltD (fCall (m1 lenD) [bVar 0]) (fK (.int 2))))) (gRet (fLst [fK .none])) (gSkip)) (gSeq (gSet 1 (fLst [])) (gSeq (gFor (sSeq (fVar 0)) (gN 2) (B_law_names_of_1 m_law_names_of)) (gRet (fVar 1)))))
def mf_law_names_of : Nat → Fn
  | 0 => fun _ => none
  | n + 1 => runQ false 3 [false] (G_law_names_of m_law_is_strand (mf_law_names_of n))
def m_law_names_of : Fn := mf_law_names_of 24
def G_law_is_cord (m_law_names_of : Fn) : G := gSeq (gSet 1 (fCall m_law_names_of [fVar 0])) (gRet (fAnd (f2 notInD (fK .none) (bVar 1)) (fAnd (f2 leD (fCall (m1 lenD) [bVar 1]) (fK (.int 8))) (f2 eqD (f1 lenSetD (bVar 1)) (fCall (m1 lenD) [bVar 1])))))
def m_law_is_cord : Fn := runQ false 2 [false] (G_law_is_cord m_law_names_of)
def B_law_1 : G := gSet 3 (f2 addD (bVar 3) (fLst [fVar 5, fTup [fVar 5, fTup [fK (.str "b"), fK (.int 1)]], fTup [fTup [fVar 5], fTup [fK (.str "b"), fK (.int 1)]]]))
def B_law_2 (m_law_bent : Fn) (m_law_thing : Fn) : G := gSeq (gSet 10 (fCut (bVar 7) (some (f2 mulD (fK (.int 4)) (bVar 9))) (some (f2 addD (f2 mulD (fK (.int 4)) (bVar 9)) (fK (.int 5)))))) (gSeq (gSet 11 (fCall m_law_bent [fVar 8, fVar 10])) (gSet 3 (f2 addD (bVar 3) (fLst [fVar 11, fCall m_law_bent [fVar 11, f1 revD (bVar 10)], fCall m_law_thing [f2 addD (fCut (bVar 7) (some (bVar 9)) (none)) (fCut (bVar 7) (none) (some (bVar 9))), fK (.int 0)]]))))
def B_law_3 (m_law_draws : Fn) (m_law_cord : Fn) (m_law_bent : Fn) (m_law_thing : Fn) : G := gSeq (gSet 7 (fCall m_law_draws [fVar 0, fVar 6, fK (.int 60), fK (.int 27720)])) (gSeq (gSet 8 (fCall m_law_cord [fVar 7, fK (.int 8)])) (gSeq (gSet 3 (f2 addD (bVar 3) (fLst [fVar 8, fCall (m1 lstD) [bVar 8], fTup [fVar 8, fVar 8], fTup [fVar 8, fTup [fK (.str "zed"), fK (.int 5)]], fTup [fVar 8], fTup [fTup [fK (.str "zed"), fK (.int 5)], fTup [fK (.str "yak"), fK (.int 5)], fVar 8]]))) (gFor (sRng (fK (.int 12))) (gN 9) (B_law_2 m_law_bent m_law_thing))))
def B_law_4 (m_law_truly : Fn) (m_is_cord : Fn) (m_law_is_cord : Fn) : G := gIf (tNot (tOf (fCall m_law_truly [fCall m_is_cord [fVar 12], fCall m_law_is_cord [fVar 12]]))) (gRet (fK (.bool false))) (gSkip)
def G_law (m_law_draws : Fn) (m_law_cord : Fn) (m_law_bent : Fn) (m_law_thing : Fn) (m_is_cord : Fn) (m_law_is_cord : Fn) (m_law_truly : Fn) : G := gSeq (gSet 1 (fCall (m1 tupD) [fLc [2] (sSeq (fK (.str "abcdefghi"))) (gN 2) (tYes) (fTup [fVar 2, fK (.int 1)])])) (gSeq (gSet 3 (fLst [fVar 1, fCut (bVar 1) (none) (some (fK (.int 8))), fCut (bVar 1) (none) (some (fK (.int 1))), fCut (bVar 1) (none) (some (fK (.int 2))), f2 ixD (bVar 1) (fK (.int 0)), fTup [f2 ixD (bVar 1) (fK (.int 0)), fCut (bVar 1) (some (fK (.int 1))) (some (fK (.int 3)))], fTup [fCut (bVar 1) (none) (some (fK (.int 2))), fCut (bVar 1) (none) (some (fK (.int 2)))], fTup [fCut (bVar 1) (none) (some (fK (.int 2))), fCut (bVar 1) (some (fK (.int 1))) (some (fK (.int 3)))]])) (gSeq (gSet 4 (fLst [fTup [fK (.str "a"), fK (.int 0)], fTup [fK (.str "a"), fK (.int 100)], fTup [fK (.str "a"), fK (.int 99)], fTup [fK (.str ""), fK (.int 1)], fTup [fK (.str "abcdefghi"), fK (.int 1)], fTup [fK (.str "A"), fK (.int 1)], fTup [fK (.str "a"), fK (.bool true)]])) (gSeq (gFor (sSeq (f2 addD (bVar 4) (fLst [fLst [fK (.str "a"), fK (.int 1)], fTup [fK (.str "a"), fK (.int 1), fK (.int 2)]]))) (gN 5) (B_law_1)) (gSeq (gFor (sSeq (fTup [fK (.int 0), fK (.int 2), fK (.int 4)])) (gN 6) (B_law_3 m_law_draws m_law_cord m_law_bent m_law_thing)) (gSeq (gFor (sSeq (fVar 3)) (gN 12) (B_law_4 m_law_truly m_is_cord m_law_is_cord)) (gRet (fK (.bool true))))))))
def m_law : Fn := runQ false 13 [false] (G_law m_law_draws m_law_cord m_law_bent m_law_thing m_is_cord m_law_is_cord m_law_truly)
end Mi
set_option maxRecDepth 100000
/-! The combinators' values, step by step. -/
namespace Pu
open PySem
theorem nr {α : Sort _} {a b : α} (h : a = b) : a = b := h
def seqK : Option Out → G → Option Out
  | some (.nx ρ), h => h ρ
  | some (.rt d), _ => some (.rt d)
  | none, _ => none
def nxK (ρ : Rho) (i : Nat) : Option Slot → Option Out
  | some s => some (.nx (ρ.set i s))
  | none => none
def vK : Option D → Option Slot
  | some d => some (.val d)
  | none => none
def oK : Option D → Option Slot
  | some d => some (.own d)
  | none => none
def rtK : Option D → Option Out
  | some d => some (.rt d)
  | none => none
def ifK : Option Bool → Option Out → Option Out → Option Out
  | some b, x, y => if b then x else y
  | none, _, _ => none
def vaK : Slot → Option D
  | .val d => some d
  | .bor d => if isCon d then none else some d
  | _ => none
def vbK : Slot → Option D
  | .val d => some d
  | .bor d => some d
  | .own d => some d
  | .no => none
def o1K (op : D → Option D) : Option D → Option D
  | some x => op x
  | none => none
def o2K (op : D → D → Option D) : Option D → Option D → Option D
  | some x, some y => op x y
  | _, _ => none
def andK : Option D → F1 → Rho → Option D
  | some (.bool true), b, ρ => b ρ
  | some (.bool false), _, _ => some (.bool false)
  | _, _, _ => none
def orK : Option D → F1 → Rho → Option D
  | some (.bool false), b, ρ => b ρ
  | some (.bool true), _, _ => some (.bool true)
  | _, _, _ => none
def toK : Option D → Option Bool
  | some (.bool b) => some b
  | _ => none
def tandK : Option Bool → FB → Rho → Option Bool
  | some x, b, ρ => if x then b ρ else some false
  | none, _, _ => none
def torK : Option Bool → FB → Rho → Option Bool
  | some x, b, ρ => if x then some true else b ρ
  | none, _, _ => none
def notK : Option Bool → Option Bool
  | some b => some (!b)
  | none => none
def fifK : Option Bool → F1 → F1 → Rho → Option D
  | some x, a, b, ρ => if x then a ρ else b ρ
  | none, _, _, _ => none
def consK : Option D → Option (List D) → Option (List D)
  | some d, some ds => some (d :: ds)
  | _, _ => none
def tupK : Option (List D) → Option D
  | some ds => some (.tuple ds)
  | none => none
def lstK : Option (List D) → Option D
  | some ds => some (.list ds)
  | none => none
def callK (m : Fn) : Option (List D) → Option D
  | some ds => m ds
  | none => none
def seqsK : Option D → Option (List D)
  | some (.list ds) => some ds
  | some (.tuple ds) => some ds
  | some (.str x) => some (x.cps.toList.map fun c => .str ⟨#[c]⟩)
  | some (.dict kvs) => if notT kvs then some (kvs.map (·.1)) else none
  | _ => none
def forK (tg : TgF) (b : G) (ρ : Rho) : Option (List D) → Option Out
  | some ds => forL tg b ds ρ
  | none => none
def tgK : Option D → TgF → Rho → Option Out
  | some d, tg, ρ => (tg d ρ).map .nx
  | none, _, _ => none
def frzK (i : Nat) (g : G) (ρ : Rho) : Slot → Option Out
  | .own d => g (ρ.set i (.val d))
  | _ => none
def chK (o2 : D → D → Option D) (y z : Option D) : Option D → Option D
  | some (.bool true) => o2K o2 y z
  | some (.bool false) => some (.bool false)
  | _ => none
def lcK : Option (List D) → Option D
  | some r => if fitsL r.length then some (.list r) else none
  | none => none
def coK (tg : TgF) (t : FB) (e : F1) (ρ : Rho) : Option (List D) → Option (List D)
  | some ds => compL tg t e ρ ds
  | none => none
def endK (fr : Bool) : Option Out → Option D
  | some o => endQ fr o
  | none => none
def ptK (ρ : Rho) : Option F1 → Option (Option Int)
  | none => some none
  | some f => match f ρ with
    | some (.int i) => some (some i)
    | _ => none
def intK : Option D → Option (Option Int)
  | some (.int i) => some (some i)
  | _ => none
def cutK : Option D → Option (Option Int) → Option (Option Int) → Option D
  | some d, some l, some h => cutD l h d
  | _, _, _ => none
def appK (ρ : Rho) (i : Nat) : Slot → Option D → Option Out
  | .own (.list ds), some y => if decide (ds.length < sizeLine) then some (.nx (ρ.set i (.own (.list (ds ++ [y]))))) else none
  | _, _ => none
def rngK : Option D → Option (List D)
  | some (.int j) => if smallI j then some (rngL j.toNat 0) else none
  | _ => none
section
variable {g h : G} {ρ ρ' : Rho} {f a b : F1} {fs : List F1} {ta tb : FB} {i : Nat} {d e : D} {s : Slot} {r : Rho} {op o1 o2 : D → D → Option D} {op1 : D → Option D} {m : Fn} {ds : List D} {src : FA} {tg : TgF} {vs : List Nat} {fr : Bool} {n : Nat} {ms : List Bool}
theorem e_run : runQ fr n ms g ds = endK fr (g (pad n (slots ms ds))) := nr (by unfold runQ endK; cases g (pad n (slots ms ds)) <;> rfl)
theorem e_seq : gSeq g h ρ = seqK (g ρ) h := nr (by unfold gSeq seqK; cases g ρ with | none => rfl | some o => cases o <;> rfl)
theorem seq_nx : seqK (some (.nx ρ)) h = h ρ := nr rfl
theorem seq_rt : seqK (some (.rt d)) h = some (.rt d) := nr rfl
theorem seq_none : seqK none h = none := nr rfl
theorem e_skip : gSkip ρ = some (.nx ρ) := nr rfl
theorem e_set : gSet i f ρ = nxK ρ i (vK (f ρ)) := nr (by unfold gSet; cases f ρ <;> rfl)
theorem e_own : gOwn i f ρ = nxK ρ i (oK (f ρ)) := nr (by unfold gOwn; cases f ρ <;> rfl)
theorem nxK_some : nxK ρ i (some s) = some (.nx (ρ.set i s)) := nr rfl
theorem vK_some : vK (some d) = some (.val d) := nr rfl
theorem oK_some : oK (some d) = some (.own d) := nr rfl
theorem e_ret : gRet f ρ = rtK (f ρ) := nr (by unfold gRet; cases f ρ <;> rfl)
theorem rtK_some : rtK (some d) = some (.rt d) := nr rfl
theorem e_if : gIf ta g h ρ = ifK (ta ρ) (g ρ) (h ρ) := nr (by unfold gIf; cases ta ρ <;> rfl)
theorem ifK_some {b : Bool} {x y : Option Out} : ifK (some b) x y = if b then x else y := nr rfl
theorem e_fVar : fVar i ρ = vaK (atR ρ i) := nr (by unfold fVar; cases atR ρ i <;> rfl)
theorem e_bVar : bVar i ρ = vbK (atR ρ i) := nr (by unfold bVar; cases atR ρ i <;> rfl)
theorem va_val : vaK (.val d) = some d := nr rfl
theorem vb_val : vbK (.val d) = some d := nr rfl
theorem vb_own : vbK (.own d) = some d := nr rfl
theorem vb_bor : vbK (.bor d) = some d := nr rfl
theorem at_0 : atR (s :: r) 0 = s := nr rfl
theorem at_S : atR (s :: r) (n + 1) = atR r n := nr rfl
theorem set_0 {t : Slot} : List.set (s :: r) 0 t = t :: r := nr rfl
theorem set_S {t : Slot} : List.set (s :: r) (n + 1) t = s :: List.set r n t := nr rfl
theorem e_K : fK d ρ = some d := nr rfl
theorem e_f1 : f1 op1 a ρ = o1K op1 (a ρ) := nr (by unfold f1; cases a ρ <;> rfl)
theorem o1_some : o1K op1 (some d) = op1 d := nr rfl
theorem e_f2 : f2 op a b ρ = o2K op (a ρ) (b ρ) := nr (by unfold f2; cases a ρ <;> cases b ρ <;> rfl)
theorem o2_some : o2K op (some d) (some e) = op d e := nr rfl
theorem e_and : fAnd a b ρ = andK (a ρ) b ρ := nr (by unfold fAnd andK; rcases a ρ with _ | (_ | (_ | _) | _ | _ | _ | _ | _) <;> rfl)
theorem and_t : andK (some (.bool true)) b ρ = b ρ := nr rfl
theorem and_f : andK (some (.bool false)) b ρ = some (.bool false) := nr rfl
theorem and_b {x : Bool} : andK (some (.bool x)) b ρ = if x then b ρ else some (.bool false) := nr (by cases x <;> rfl)
theorem e_or : fOr a b ρ = orK (a ρ) b ρ := nr (by unfold fOr orK; rcases a ρ with _ | (_ | (_ | _) | _ | _ | _ | _ | _) <;> rfl)
theorem or_b {x : Bool} : orK (some (.bool x)) b ρ = if x then some (.bool true) else b ρ := nr (by cases x <;> rfl)
theorem e_tOf : tOf a ρ = toK (a ρ) := nr (by unfold tOf toK; rcases a ρ with _ | (_ | (_ | _) | _ | _ | _ | _ | _) <;> rfl)
theorem to_b {x : Bool} : toK (some (.bool x)) = some x := nr rfl
theorem e_tAnd : tAnd ta tb ρ = tandK (ta ρ) tb ρ := nr (by unfold tAnd; cases ta ρ <;> rfl)
theorem tand_b {x : Bool} : tandK (some x) tb ρ = if x then tb ρ else some false := nr rfl
theorem e_tOr : tOr ta tb ρ = torK (ta ρ) tb ρ := nr (by unfold tOr; cases ta ρ <;> rfl)
theorem tor_b {x : Bool} : torK (some x) tb ρ = if x then some true else tb ρ := nr rfl
theorem e_tNot : tNot ta ρ = notK (ta ρ) := nr (by unfold tNot; cases ta ρ <;> rfl)
theorem not_b {x : Bool} : notK (some x) = some (!x) := nr rfl
theorem e_tYes : tYes ρ = some true := nr rfl
theorem e_fIf : fIf ta a b ρ = fifK (ta ρ) a b ρ := nr (by unfold fIf; cases ta ρ <;> rfl)
theorem fif_b {x : Bool} : fifK (some x) a b ρ = if x then a ρ else b ρ := nr rfl
theorem e_nil : fArgs [] ρ = some [] := nr rfl
theorem e_cons : fArgs (f :: fs) ρ = consK (f ρ) (fArgs fs ρ) := nr (by show (f ρ).bind _ = _; cases f ρ <;> cases fArgs fs ρ <;> rfl)
theorem cons_some : consK (some d) (some ds) = some (d :: ds) := nr rfl
theorem e_tup : fTup fs ρ = tupK (fArgs fs ρ) := nr (by unfold fTup; cases fArgs fs ρ <;> rfl)
theorem tup_some : tupK (some ds) = some (.tuple ds) := nr rfl
theorem e_lst : fLst fs ρ = lstK (fArgs fs ρ) := nr (by unfold fLst; cases fArgs fs ρ <;> rfl)
theorem lst_some : lstK (some ds) = some (.list ds) := nr rfl
theorem e_call : fCall m fs ρ = callK m (fArgs fs ρ) := nr (by unfold fCall; cases fArgs fs ρ <;> rfl)
theorem call_some : callK m (some ds) = m ds := nr rfl
theorem e_m1 : m1 op1 [d] = op1 d := nr rfl
theorem e_m2 : m2 op [d, e] = op d e := nr rfl
theorem e_m3 {op3 : D → D → D → Option D} {x : D} : m3 op3 [d, e, x] = op3 d e x := nr rfl
theorem e_sSeq : sSeq a ρ = seqsK (a ρ) := nr (by unfold sSeq seqsK; rcases a ρ with _ | (_ | (_ | _) | _ | _ | _ | _ | _) <;> rfl)
theorem seqs_l : seqsK (some (.list ds)) = some ds := nr rfl
theorem seqs_t : seqsK (some (.tuple ds)) = some ds := nr rfl
theorem seqs_s {x : Str} : seqsK (some (.str x)) = some (x.cps.toList.map fun c => .str ⟨#[c]⟩) := nr rfl
theorem e_for : gFor src tg g ρ = forK tg g ρ (src ρ) := nr (by unfold gFor; cases src ρ <;> rfl)
theorem for_some : forK tg g ρ (some ds) = forL tg g ds ρ := nr rfl
theorem e_asg : gAsg f tg ρ = tgK (f ρ) tg ρ := nr (by unfold gAsg; cases f ρ <;> rfl)
theorem tg_some : tgK (some d) tg ρ = (tg d ρ).map .nx := nr rfl
theorem e_gN : gN i d ρ = some (ρ.set i (.val d)) := nr rfl
theorem e_gT2 {i j : Nat} {x y : D} : gT2 i j (.tuple [x, y]) ρ = some ((ρ.set i (.val x)).set j (.val y)) := nr rfl
theorem e_gT3 {i j k : Nat} {x y z : D} : gT3 i j k (.tuple [x, y, z]) ρ = some (((ρ.set i (.val x)).set j (.val y)).set k (.val z)) := nr rfl
theorem e_frz : gFrz i g ρ = frzK i g ρ (atR ρ i) := nr (by unfold gFrz; cases atR ρ i <;> rfl)
theorem frz_own : frzK i g ρ (.own d) = g (ρ.set i (.val d)) := nr rfl
theorem e_retOwn : gRetOwn i ρ = match atR ρ i with | .own d => some (.rt d) | _ => none := nr rfl
theorem e_chain {c : F1} : fChain o1 o2 a b c ρ = chK o2 (b ρ) (c ρ) (o2K o1 (a ρ) (b ρ)) := nr (by
  unfold fChain
  rcases a ρ with _ | x
  · rfl
  · rcases b ρ with _ | y
    · rfl
    · show (match o1 x y with | some (.bool true) => (c ρ).bind fun z => o2 y z | some (.bool false) => some (.bool false) | _ => none) = chK o2 (some y) (c ρ) (o1 x y)
      rcases o1 x y with _ | (_ | (_ | _) | _ | _ | _ | _ | _) <;> first | rfl | (cases c ρ <;> rfl))
theorem ch_b {x : Bool} {y z : Option D} : chK o2 y z (some (.bool x)) = if x then o2K o2 y z else some (.bool false) := nr (by cases x <;> rfl)
theorem e_lc {t : FB} {el : F1} : fLc vs src tg t el ρ = lcK (coK tg t el (wipeR ρ vs) (src ρ)) := nr (by unfold fLc; cases src ρ with | none => rfl | some ds => show ((compL tg t el (wipeR ρ vs) ds).bind _) = lcK (compL tg t el (wipeR ρ vs) ds); cases compL tg t el (wipeR ρ vs) ds <;> rfl)
theorem co_some {t : FB} {el : F1} : coK tg t el ρ (some ds) = compL tg t el ρ ds := nr rfl
theorem lc_some : lcK (some ds) = if fitsL ds.length then some (.list ds) else none := nr rfl
theorem wipe_nil : wipeR ρ [] = ρ := nr rfl
theorem wipe_cons {v : Nat} : wipeR ρ (v :: vs) = (wipeR ρ vs).set v .no := nr rfl
theorem end_rt : endK fr (some (.rt d)) = some d := nr rfl
theorem end_nx : endK false (some (.nx ρ)) = some .none := nr rfl
theorem pt_none : ptK ρ none = some none := nr rfl
theorem pt_some : ptK ρ (some f) = intK (f ρ) := nr (by show (match f ρ with | some (.int i) => some (some i) | _ => none) = _; rcases f ρ with _ | (_ | (_ | _) | _ | _ | _ | _ | _) <;> rfl)
theorem int_some {i : Int} : intK (some (.int i)) = some (some i) := nr rfl
theorem e_cut {l u : Option F1} : fCut a l u ρ = cutK (a ρ) (ptK ρ l) (ptK ρ u) := nr (by
  have e : ∀ o : Option F1, partO o ρ = ptK ρ o := fun o => by cases o <;> rfl
  unfold fCut
  rw [e, e]
  cases a ρ <;> cases ptK ρ l <;> cases ptK ρ u <;> rfl)
theorem cut_l {l u : Option Int} : cutK (some (.list ds)) (some l) (some u) = some (.list (cutL ds l u)) := nr rfl
theorem cut_t {l u : Option Int} : cutK (some (.tuple ds)) (some l) (some u) = some (.tuple (cutL ds l u)) := nr rfl
theorem e_app : gApp i f ρ = appK ρ i (atR ρ i) (f ρ) := nr (by
  unfold gApp
  rcases f ρ with _ | y <;> rcases atR ρ i with _ | _ | (_ | _ | _ | _ | _ | _ | _) | _ <;> rfl)
theorem app_some {y : D} (hl : ds.length < sizeLine) : appK ρ i (.own (.list ds)) (some y) = some (.nx (ρ.set i (.own (.list (ds ++ [y]))))) := by
  show (if decide _ = true then _ else _) = _
  rw [if_pos (decide_eq_true hl)]
theorem e_sRng : sRng a ρ = rngK (a ρ) := nr (by unfold sRng rngK; rcases a ρ with _ | (_ | (_ | _) | _ | _ | _ | _ | _) <;> rfl)
theorem rng_some {j : Int} (h : j < 4611686018427387904) (h0 : -4611686018427387904 ≤ j) : rngK (some (.int j)) = some (rngL j.toNat 0) := by
  show (if smallI j = true then _ else _) = _
  rw [if_pos (by unfold smallI; rw [Bool.and_eq_true, decide_eq_true_eq, decide_eq_true_eq]; exact ⟨h0, h⟩)]
theorem e_par {oi oj : Bool} {i j : Nat} : gPar i j oi oj a b ρ = match a ρ, b ρ with | some x, some y => some (.nx ((ρ.set i (if oi then .own x else .val x)).set j (if oj then .own y else .val y))) | _, _ => none := nr (by
  unfold gPar
  cases a ρ <;> cases b ρ <;> rfl)
theorem pad_0 {ss : List Slot} : pad n ss = ss ++ List.replicate (n - ss.length) .no := nr rfl
theorem sl_f {d : D} : slots (false :: ms) (d :: ds) = .val d :: slots ms ds := nr rfl
theorem sl_t {d : D} : slots (true :: ms) (d :: ds) = .bor d :: slots ms ds := nr rfl
theorem sl_nil : slots [] ds = [] := nr rfl
/-! operators on plain things -/
theorem add_i {x y : Int} : addD (.int x) (.int y) = some (.int (x + y)) := nr rfl
theorem add_l {x y : List D} (h : x.length + y.length ≤ sizeLine) : addD (.list x) (.list y) = some (.list (x ++ y)) := by
  show (if fitsL _ = true then _ else _) = _
  rw [if_pos (by unfold fitsL; exact decide_eq_true h)]
theorem add_t {x y : List D} (h : x.length + y.length ≤ sizeLine) : addD (.tuple x) (.tuple y) = some (.tuple (x ++ y)) := by
  show (if fitsL _ = true then _ else _) = _
  rw [if_pos (by unfold fitsL; exact decide_eq_true h)]
theorem sub_i {x y : Int} : subD (.int x) (.int y) = some (.int (x - y)) := nr rfl
theorem lt_i {x y : Int} : ltD (.int x) (.int y) = some (.bool (decide (x < y))) := nr rfl
theorem le_i {x y : Int} : leD (.int x) (.int y) = some (.bool (decide (x ≤ y))) := nr rfl
theorem gt_i {x y : Int} : gtD (.int x) (.int y) = some (.bool (decide (y < x))) := nr rfl
theorem ge_i {x y : Int} : geD (.int x) (.int y) = some (.bool (decide (y ≤ x))) := nr rfl
theorem neg_i {x : Int} : negD (.int x) = some (.int (-x)) := nr rfl
theorem not_d {x : Bool} : notD (.bool x) = some (.bool (!x)) := nr rfl
theorem len_l {x : List D} : lenD (.list x) = some (.int x.length) := nr rfl
theorem len_t {x : List D} : lenD (.tuple x) = some (.int x.length) := nr rfl
theorem ix_l {x : List D} {i : Int} : ixD (.list x) (.int i) = L2.atI x i := nr rfl
theorem ix_t {x : List D} {i : Int} : ixD (.tuple x) (.int i) = L2.atI x i := nr rfl
theorem max2_i {x y : Int} : max2D (.int x) (.int y) = some (.int (max x y)) := nr rfl
theorem min2_i {x y : Int} : min2D (.int x) (.int y) = some (.int (min x y)) := nr rfl
theorem tup_l {x : List D} : tupD (.list x) = some (.tuple x) := nr rfl
theorem tup_t {x : List D} : tupD (.tuple x) = some (.tuple x) := nr rfl
theorem lst_l {x : List D} : lstD (.list x) = some (.list x) := nr rfl
theorem lst_t {x : List D} : lstD (.tuple x) = some (.list x) := nr rfl
theorem rev_l {x : List D} : revD (.list x) = some (.list x.reverse) := nr rfl
theorem rev_t {x : List D} : revD (.tuple x) = some (.tuple x.reverse) := nr rfl
theorem bool_i {x : Int} : boolD (.int x) = some (.bool (x != 0)) := nr rfl
theorem bool_b {x : Bool} : boolD (.bool x) = some (.bool x) := nr rfl
theorem int_b {x : Bool} : intD (.bool x) = some (.int (if x then 1 else 0)) := nr rfl
theorem isn_n : isNoneD .none = some (.bool true) := nr rfl
end
end Pu
set_option maxRecDepth 100000
/-! Tools for the mirrors' values; draws. -/
namespace Fact
open PySem Pu


/-! ### indices -/
theorem atI_nat {α : Type} {xs : List α} {i : Nat} {x : α} (h : xs[i]? = some x) : L2.atI xs (i : Int) = some x := by
  obtain ⟨h1, _⟩ := List.getElem?_eq_some_iff.mp h
  unfold L2.atI L2.ixN
  rw [if_pos (by omega), if_pos (by omega)]
  exact h
theorem atI_mem {α : Type} {xs : List α} {i : Int} (h0 : 0 ≤ i) (h1 : i < xs.length) : ∃ x, x ∈ xs ∧ L2.atI xs i = some x := by
  obtain ⟨n, rfl⟩ := Int.eq_ofNat_of_zero_le h0
  have h2 : n < xs.length := by omega
  exact ⟨xs[n], List.getElem_mem h2, atI_nat (List.getElem?_eq_getElem h2)⟩
theorem atI_at {α : Type} {xs : List α} {i : Int} (h0 : 0 ≤ i) (h1 : i < xs.length) : ∃ x, xs[i.toNat]? = some x ∧ L2.atI xs i = some x := by
  obtain ⟨n, rfl⟩ := Int.eq_ofNat_of_zero_le h0
  have h2 : n < xs.length := by omega
  exact ⟨xs[n], List.getElem?_eq_getElem h2, atI_nat (List.getElem?_eq_getElem h2)⟩
theorem mod_ok {a b : Int} (h : 0 < b) : modD (.int a) (.int b) = some (.int (a % b)) := by simp only [modD]; rw [if_pos (by simpa using h)]
theorem div_ok {a b : Int} (h : 0 < b) (h2 : b < 18446744073709551616) : divD (.int a) (.int b) = some (.int (a / b)) := by
  have : divOk b = true := by unfold divOk; simp; omega
  simp [divD, this]
theorem mul_ok {a b : Int} (h : (-18446744073709551616 < a ∧ a < 18446744073709551616) ∨ (-18446744073709551616 < b ∧ b < 18446744073709551616)) : mulD (.int a) (.int b) = some (.int (a * b)) := by
  have : mulOk a b = true := by unfold mulOk; simp; omega
  simp [mulD, this]
theorem pow_ok {a b : Int} (h0 : 0 ≤ b) (h : b ≤ 1000) (h2 : a.natAbs < 18446744073709551616) : powD (.int a) (.int b) = some (.int (a ^ b.toNat)) := by simp only [powD]; rw [if_pos (by simp; omega)]
theorem eqB_int {a b : Int} : eqB (.int a) (.int b) = some (a == b) := by
  unfold eqB eqOk noDict
  simp [PyData.depth, PyData.eqv]
theorem eqB_str {a b : Str} : eqB (.str a) (.str b) = some (a == b) := by
  unfold eqB eqOk noDict
  simp [PyData.depth, PyData.eqv]
theorem eqB_bool {a b : Bool} : eqB (.bool a) (.bool b) = some (a == b) := by
  unfold eqB eqOk noDict
  simp [PyData.depth, PyData.eqv]
theorem fits_of {n : Nat} (h : n ≤ 16777216) : fitsL n = true := by
  unfold fitsL sizeLine
  simpa using h

/-! ### walks -/
theorem forL_rng {tg : TgF} {body : G} {I : Nat → Rho → Prop} {n : Nat} : ∀ {m : Nat} {lo : Int} {j : Nat} {ρ : Rho}, j + m = n → I j ρ →
    (∀ k ρ, j ≤ k → k < n → I k ρ → ∃ ρ1 ρ2, tg (.int (lo + ((k - j : Nat) : Int))) ρ = some ρ1 ∧ body ρ1 = some (.nx ρ2) ∧ I (k + 1) ρ2) →
    ∃ ρ', forL tg body (rngL m lo) ρ = some (.nx ρ') ∧ I n ρ'
  | 0, lo, j, ρ, e, h, st => ⟨ρ, rfl, by simpa [← e] using h⟩
  | m + 1, lo, j, ρ, e, h, st => by
    obtain ⟨ρ1, ρ2, h1, h2, h3⟩ := st j ρ (Nat.le_refl _) (by omega) h
    obtain ⟨ρ', h4, h5⟩ := forL_rng (m := m) (lo := lo + 1) (j := j + 1) (show j + 1 + m = n by omega) h3 fun k ρ a b c => by
      obtain ⟨x, y, h6, h7, h8⟩ := st k ρ (by omega) b c
      have : lo + ((k - j : Nat) : Int) = lo + 1 + ((k - (j + 1) : Nat) : Int) := by omega
      exact ⟨x, y, this ▸ h6, h7, h8⟩
    refine ⟨ρ', ?_, h5⟩
    have : lo + ((j - j : Nat) : Int) = lo := by omega
    rw [this] at h1
    show (tg (.int lo) ρ).bind _ = _
    rw [h1, Option.bind_some, h2]
    exact h4
/-- along a list, with what is done so far -/
theorem forL_inv {tg : TgF} {body : G} {I : List D → Rho → Prop} {full : List D} : ∀ {ds pre : List D} {ρ : Rho}, full = pre ++ ds → I pre ρ →
    (∀ pre d post ρ, full = pre ++ d :: post → I pre ρ → ∃ ρ1 ρ2, tg d ρ = some ρ1 ∧ body ρ1 = some (.nx ρ2) ∧ I (pre ++ [d]) ρ2) →
    ∃ ρ', forL tg body ds ρ = some (.nx ρ') ∧ I full ρ'
  | [], pre, ρ, e, h, st => ⟨ρ, rfl, by simpa [e] using h⟩
  | d :: ds, pre, ρ, e, h, st => by
    obtain ⟨ρ1, ρ2, h1, h2, h3⟩ := st pre d ds ρ e h
    obtain ⟨ρ', h4, h5⟩ := forL_inv (ds := ds) (pre := pre ++ [d]) (by simpa using e) h3 st
    refine ⟨ρ', ?_, h5⟩
    show (tg d ρ).bind _ = _
    rw [h1, Option.bind_some, h2]
    exact h4
/-- along a list, with one thing kept -/
theorem forL_keep {tg : TgF} {body : G} {I : Rho → Prop} : ∀ {ds : List D} {ρ : Rho}, I ρ →
    (∀ d ρ, d ∈ ds → I ρ → ∃ ρ1 ρ2, tg d ρ = some ρ1 ∧ body ρ1 = some (.nx ρ2) ∧ I ρ2) → ∃ ρ', forL tg body ds ρ = some (.nx ρ') ∧ I ρ'
  | [], ρ, h, st => ⟨ρ, rfl, h⟩
  | d :: ds, ρ, h, st => by
    obtain ⟨ρ1, ρ2, h1, h2, h3⟩ := st d ρ (List.mem_cons_self) h
    obtain ⟨ρ', h4, h5⟩ := forL_keep (ds := ds) h3 fun d ρ m => st d ρ (List.mem_cons_of_mem _ m)
    refine ⟨ρ', ?_, h5⟩
    show (tg d ρ).bind _ = _
    rw [h1, Option.bind_some, h2]
    exact h4
theorem compL_map {tg : TgF} {e : F1} {ρ : Rho} {g : D → D} : ∀ {ds : List D}, (∀ d ∈ ds, ∃ ρ1, tg d ρ = some ρ1 ∧ e ρ1 = some (g d)) → compL tg tYes e ρ ds = some (ds.map g)
  | [], _ => rfl
  | d :: ds, h => by
    obtain ⟨ρ1, h1, h2⟩ := h d List.mem_cons_self
    have h3 := compL_map (ds := ds) fun d m => h d (List.mem_cons_of_mem _ m)
    simp only [compL, h1, tYes, Option.bind_some, if_true, h2, h3, List.map_cons]
theorem compL_ex {tg : TgF} {e : F1} {ρ : Rho} {P : D → D → Prop} : ∀ {ds : List D}, (∀ d ∈ ds, ∃ ρ1 y, tg d ρ = some ρ1 ∧ e ρ1 = some y ∧ P d y) → ∃ ys, compL tg tYes e ρ ds = some ys ∧ ys.length = ds.length ∧ ∀ y ∈ ys, ∃ d ∈ ds, P d y
  | [], _ => ⟨[], rfl, rfl, fun _ h => by cases h⟩
  | d :: ds, h => by
    obtain ⟨ρ1, y, h1, h2, h3⟩ := h d List.mem_cons_self
    obtain ⟨ys, h4, h5, h6⟩ := compL_ex (ds := ds) fun d m => h d (List.mem_cons_of_mem _ m)
    refine ⟨y :: ys, by simp only [compL, h1, tYes, Option.bind_some, if_true, h2, h4], by simp [h5], fun z m => ?_⟩
    rcases List.mem_cons.mp m with rfl | m
    · exact ⟨d, List.mem_cons_self, h3⟩
    · obtain ⟨d', a, b⟩ := h6 z m
      exact ⟨d', List.mem_cons_of_mem _ a, b⟩
/-- with an if -/
theorem compL_if {tg : TgF} {t : FB} {e : F1} {ρ : Rho} {p : D → Bool} {g : D → D} : ∀ {ds : List D}, (∀ d ∈ ds, ∃ ρ1, tg d ρ = some ρ1 ∧ t ρ1 = some (p d) ∧ (p d = true → e ρ1 = some (g d))) → compL tg t e ρ ds = some ((ds.filter p).map g)
  | [], _ => rfl
  | d :: ds, h => by
    obtain ⟨ρ1, h1, h2, h3⟩ := h d List.mem_cons_self
    have h4 := compL_if (ds := ds) fun d m => h d (List.mem_cons_of_mem _ m)
    simp only [compL, h1, Option.bind_some, h2, h4]
    cases hp : p d with
    | true => simp [h3 hp, hp]
    | false => simp [hp]

/-! ### draws -/
def nums (ns : List Int) : D := .list (ns.map .int)
theorem p18 : (10 : Int) ^ (18 : Int).toNat = 1000000000000000000 := by decide
theorem cell_ok (ns : List Int) (k : Nat) (hk : k ≤ 1000) : ∃ c : Int, Mi.m_law_cell [nums ns, .int k] = some (.int c) := by
  have hm : mulD (.int 7919) (.int k) = some (.int (7919 * k)) := mul_ok (Or.inl (by omega))
  by_cases h1 : k < ns.length
  · refine ⟨ns[k], ?_⟩
    have h1' : (k : Int) < (ns.length : Int) := by omega
    have h2 : L2.atI (ns.map PyData.int) (k : Int) = some (.int ns[k]) := atI_nat (by simp [h1])
    simp only [e_run, e_seq, seq_nx, seq_rt, seq_none, e_skip, e_set, e_own, nxK_some, vK_some, oK_some, e_ret, rtK_some, e_if, ifK_some, e_fVar, e_bVar, va_val, vb_val, vb_own, vb_bor, at_0, at_S, set_0, set_S, e_K, e_f1, o1_some, e_f2, o2_some, e_and, and_t, and_f, and_b, e_or, or_b, e_tOf, to_b, e_tAnd, tand_b, e_tOr, tor_b, e_tNot, not_b, e_tYes, e_fIf, fif_b, e_nil, e_cons, cons_some, e_tup, tup_some, e_lst, lst_some, e_call, call_some, e_m1, e_m2, e_sSeq, seqs_l, seqs_t, seqs_s, e_for, for_some, e_asg, tg_some, e_gN, e_gT2, e_gT3, e_frz, frz_own, e_retOwn, ch_b, e_lc, co_some, lc_some, wipe_nil, wipe_cons, end_rt, end_nx, pt_none, pt_some, int_some, e_cut, cut_l, cut_t, e_app, e_sRng, pad_0, sl_f, sl_t, sl_nil, add_i, sub_i, lt_i, le_i, gt_i, ge_i, neg_i, not_d, len_l, len_t, ix_l, ix_t, max2_i, min2_i, tup_l, tup_t, lst_l, lst_t, rev_l, rev_t, bool_i, bool_b, int_b, isn_n, e_chain, e_par, e_m3, List.length_cons, List.length_nil, List.replicate, List.cons_append, List.nil_append, Option.map_some, Nat.reduceAdd, Nat.reduceSub, Nat.zero_add, if_true, if_false, ite_true, ite_false, Bool.false_eq_true, reduceCtorEq, decide_true, decide_false, not_true, not_false_iff, Bool.not_true, Bool.not_false, Bool.and_true, Bool.true_and, Bool.and_false, Bool.false_and, Bool.or_true, Bool.true_or, Bool.or_false, Bool.false_or, Mi.m_law_cell, Mi.G_law_cell, nums, ixD, h2, List.length_map, h1']
  · have h1' : ¬ (k : Int) < (ns.length : Int) := by omega
    by_cases h0 : ns.length = 0
    · refine ⟨7919 * k + 101, ?_⟩
      have h0' : ((ns.length : Int) == 0) = true := by simp [h0]
      simp only [e_run, e_seq, seq_nx, seq_rt, seq_none, e_skip, e_set, e_own, nxK_some, vK_some, oK_some, e_ret, rtK_some, e_if, ifK_some, e_fVar, e_bVar, va_val, vb_val, vb_own, vb_bor, at_0, at_S, set_0, set_S, e_K, e_f1, o1_some, e_f2, o2_some, e_and, and_t, and_f, and_b, e_or, or_b, e_tOf, to_b, e_tAnd, tand_b, e_tOr, tor_b, e_tNot, not_b, e_tYes, e_fIf, fif_b, e_nil, e_cons, cons_some, e_tup, tup_some, e_lst, lst_some, e_call, call_some, e_m1, e_m2, e_sSeq, seqs_l, seqs_t, seqs_s, e_for, for_some, e_asg, tg_some, e_gN, e_gT2, e_gT3, e_frz, frz_own, e_retOwn, ch_b, e_lc, co_some, lc_some, wipe_nil, wipe_cons, end_rt, end_nx, pt_none, pt_some, int_some, e_cut, cut_l, cut_t, e_app, e_sRng, pad_0, sl_f, sl_t, sl_nil, add_i, sub_i, lt_i, le_i, gt_i, ge_i, neg_i, not_d, len_l, len_t, ix_l, ix_t, max2_i, min2_i, tup_l, tup_t, lst_l, lst_t, rev_l, rev_t, bool_i, bool_b, int_b, isn_n, e_chain, e_par, e_m3, List.length_cons, List.length_nil, List.replicate, List.cons_append, List.nil_append, Option.map_some, Nat.reduceAdd, Nat.reduceSub, Nat.zero_add, if_true, if_false, ite_true, ite_false, Bool.false_eq_true, reduceCtorEq, decide_true, decide_false, not_true, not_false_iff, Bool.not_true, Bool.not_false, Bool.and_true, Bool.true_and, Bool.and_false, Bool.false_and, Bool.or_true, Bool.true_or, Bool.or_false, Bool.false_or, Mi.m_law_cell, Mi.G_law_cell, nums, eqD, eqB_int, hm, List.length_map, h1', h0']
    · have hl : (0 : Int) < ns.length := by omega
      obtain ⟨x, hx, h2⟩ := atI_mem (xs := ns.map PyData.int) (i := (k : Int) % (ns.length : Int)) (Int.emod_nonneg _ (by omega)) (by simpa using Int.emod_lt_of_pos _ hl)
      obtain ⟨n, _, rfl⟩ := List.mem_map.mp hx
      refine ⟨n % 1000003 + 7919 * k, ?_⟩
      have h3 : modD (.int k) (.int ns.length) = some (.int (k % ns.length)) := mod_ok hl
      have h4 : modD (.int n) (.int 1000003) = some (.int (n % 1000003)) := mod_ok (by decide)
      have h5 : ((ns.length : Int) == 0) = false := by simpa using h0
      simp only [e_run, e_seq, seq_nx, seq_rt, seq_none, e_skip, e_set, e_own, nxK_some, vK_some, oK_some, e_ret, rtK_some, e_if, ifK_some, e_fVar, e_bVar, va_val, vb_val, vb_own, vb_bor, at_0, at_S, set_0, set_S, e_K, e_f1, o1_some, e_f2, o2_some, e_and, and_t, and_f, and_b, e_or, or_b, e_tOf, to_b, e_tAnd, tand_b, e_tOr, tor_b, e_tNot, not_b, e_tYes, e_fIf, fif_b, e_nil, e_cons, cons_some, e_tup, tup_some, e_lst, lst_some, e_call, call_some, e_m1, e_m2, e_sSeq, seqs_l, seqs_t, seqs_s, e_for, for_some, e_asg, tg_some, e_gN, e_gT2, e_gT3, e_frz, frz_own, e_retOwn, ch_b, e_lc, co_some, lc_some, wipe_nil, wipe_cons, end_rt, end_nx, pt_none, pt_some, int_some, e_cut, cut_l, cut_t, e_app, e_sRng, pad_0, sl_f, sl_t, sl_nil, add_i, sub_i, lt_i, le_i, gt_i, ge_i, neg_i, not_d, len_l, len_t, ix_l, ix_t, max2_i, min2_i, tup_l, tup_t, lst_l, lst_t, rev_l, rev_t, bool_i, bool_b, int_b, isn_n, e_chain, e_par, e_m3, List.length_cons, List.length_nil, List.replicate, List.cons_append, List.nil_append, Option.map_some, Nat.reduceAdd, Nat.reduceSub, Nat.zero_add, if_true, if_false, ite_true, ite_false, Bool.false_eq_true, reduceCtorEq, decide_true, decide_false, not_true, not_false_iff, Bool.not_true, Bool.not_false, Bool.and_true, Bool.true_and, Bool.and_false, Bool.false_and, Bool.or_true, Bool.true_or, Bool.or_false, Bool.false_or, Mi.m_law_cell, Mi.G_law_cell, nums, eqD, eqB_int, hm, ixD, h3, h2, h4, List.length_map, h1', h5]
def primes : List D := [.int 2147483647, .int 2147483629, .int 2147483587, .int 2147483579, .int 2147483563, .int 2147483549, .int 2147483543, .int 2147483497]
theorem prime_at (i : Int) : ∃ p : Int, L2.atI primes (i % 8) = some (.int p) ∧ 0 < p ∧ p < 2147483648 := by
  have h0 := Int.emod_nonneg i (b := 8) (by decide)
  have h1 := Int.emod_lt_of_pos i (b := 8) (by decide)
  generalize i % 8 = j at h0 h1
  have : j = 0 ∨ j = 1 ∨ j = 2 ∨ j = 3 ∨ j = 4 ∨ j = 5 ∨ j = 6 ∨ j = 7 := by omega
  rcases this with rfl | rfl | rfl | rfl | rfl | rfl | rfl | rfl <;> exact ⟨_, rfl, by decide, by decide⟩
/-- a row of draws -/
structure Row (many : Nat) (base : Int) (ns : List Int) : Prop where
  len : ns.length = many
  low : ∀ n ∈ ns, 0 ≤ n ∧ n < base
theorem draws_ok (ns : List Int) (k many : Nat) (base : Int) (hk : k ≤ 1000) (hm : many ≤ 1000) (hb : 0 < base) (hb2 : base < 1000000) :
    ∃ row, Row many base row ∧ Mi.m_law_draws [nums ns, .int k, .int many, .int base] = some (nums row) := by
  obtain ⟨c, hc⟩ := cell_ok ns k hk
  have hp : powD (.int 10) (.int 18) = some (.int 1000000000000000000) := by rw [pow_ok (by decide) (by decide) (by decide), p18]
  let I : Nat → Rho → Prop := fun j ρ => ∃ (rest : Int) (row : List Int) (s8 s9 : Slot), Row j base row ∧
    ρ = [.val (nums ns), .val (.int k), .val (.int many), .val (.int base), .val (.tuple primes), .val (.int c), .val (.int rest), .own (nums row), s8, s9]
  have loop : ∀ rest : Int, ∃ ρ', forL (gN 8) Mi.B_law_draws_1 (rngL many 0) [.val (nums ns), .val (.int k), .val (.int many), .val (.int base), .val (.tuple primes), .val (.int c), .val (.int rest), .own (nums []), .no, .no] = some (.nx ρ') ∧ I many ρ' := fun rest =>
    forL_rng (tg := gN 8) (body := Mi.B_law_draws_1) (n := many)
      (I := I) (j := 0) (m := many) (lo := 0) (by omega) ⟨rest, [], .no, .no, ⟨rfl, fun _ h => by cases h⟩, rfl⟩ fun j ρ _ hj ⟨rest, row, s8, s9, hr, e⟩ => by
      subst e
      obtain ⟨p1, a1, b1, c1⟩ := prime_at j
      obtain ⟨p2, a2, b2, c2⟩ := prime_at (3 * j + k)
      obtain ⟨p3, a3, b3, c3⟩ := prime_at (j + 5)
      have m8 : ∀ i : Int, modD (.int i) (.int 8) = some (.int (i % 8)) := fun i => mod_ok (by decide)
      have q1 := Int.emod_nonneg c (b := p1) (by omega)
      have q2 := Int.emod_lt_of_pos c b1
      have t1 : ∀ z : Int, mulD (.int (c % p1)) (.int z) = some (.int (c % p1 * z)) := fun z => mul_ok (Or.inl (by omega))
      have t2 : mulD (.int 2) (.int j) = some (.int (2 * j)) := mul_ok (Or.inl (by omega))
      have t3 : mulD (.int (2 * j)) (.int j) = some (.int (2 * j * j)) := mul_ok (Or.inr (by omega))
      have t4 : mulD (.int 7919) (.int (j + 1)) = some (.int (7919 * (j + 1))) := mul_ok (Or.inl (by omega))
      have t5 : mulD (.int (7919 * (j + 1))) (.int (j + 1)) = some (.int (7919 * (j + 1) * (j + 1))) := mul_ok (Or.inr (by omega))
      have t6 : mulD (.int 104729) (.int k) = some (.int (104729 * k)) := mul_ok (Or.inl (by omega))
      have t7 : mulD (.int 3) (.int j) = some (.int (3 * j)) := mul_ok (Or.inl (by omega))
      generalize e1 : c % p1 * (48271 + 2 * (j : Int) * j) + 7919 * ((j : Int) + 1) * (j + 1) + 104729 * k = m1
      have u1 : modD (.int m1) (.int p2) = some (.int (m1 % p2)) := mod_ok b2
      have q3 := Int.emod_nonneg m1 (b := p2) (by omega)
      have q4 := Int.emod_lt_of_pos m1 b2
      generalize m1 % p2 = m2 at u1 q3 q4
      have t8 : ∀ z : Int, mulD (.int z) (.int m2) = some (.int (z * m2)) := fun z => mul_ok (Or.inr (by omega))
      have u2 : modD (.int (m2 * m2 * m2)) (.int p3) = some (.int (m2 * m2 * m2 % p3)) := mod_ok b3
      have u3 : ∀ z : Int, modD (.int z) (.int base) = some (.int (z % base)) := fun z => mod_ok hb
      have u4 : divD (.int rest) (.int base) = some (.int (rest / base)) := div_ok hb (by omega)
      have u5 : modD (.int c) (.int p1) = some (.int (c % p1)) := mod_ok b1
      have hl : (row.map PyData.int).length < sizeLine := by rw [List.length_map, hr.len]; exact Nat.lt_of_lt_of_le hj (Nat.le_trans hm (by decide))
      have fin : ∀ z : Int, Row (j + 1) base (row ++ [z % base]) := fun z => ⟨by simp [hr.len], fun n hn => by
        rcases List.mem_append.mp hn with h | h
        · exact hr.low n h
        · rw [List.mem_singleton.mp h]
          exact ⟨Int.emod_nonneg _ (by omega), Int.emod_lt_of_pos _ hb⟩⟩
      have o : (0 : Int) + ((j - 0 : Nat) : Int) = j := by omega
      rw [o]
      by_cases hg : 0 < rest
      · refine ⟨_, _, rfl, ?_, rest / base, row ++ [rest % base], .val (.int j), .val (.int rest), fin _, rfl⟩
        simp only [e_run, e_seq, seq_nx, seq_rt, seq_none, e_skip, e_set, e_own, nxK_some, vK_some, oK_some, e_ret, rtK_some, e_if, ifK_some, e_fVar, e_bVar, va_val, vb_val, vb_own, vb_bor, at_0, at_S, set_0, set_S, e_K, e_f1, o1_some, e_f2, o2_some, e_and, and_t, and_f, and_b, e_or, or_b, e_tOf, to_b, e_tAnd, tand_b, e_tOr, tor_b, e_tNot, not_b, e_tYes, e_fIf, fif_b, e_nil, e_cons, cons_some, e_tup, tup_some, e_lst, lst_some, e_call, call_some, e_m1, e_m2, e_sSeq, seqs_l, seqs_t, seqs_s, e_for, for_some, e_asg, tg_some, e_gN, e_gT2, e_gT3, e_frz, frz_own, e_retOwn, ch_b, e_lc, co_some, lc_some, wipe_nil, wipe_cons, end_rt, end_nx, pt_none, pt_some, int_some, e_cut, cut_l, cut_t, e_app, e_sRng, pad_0, sl_f, sl_t, sl_nil, add_i, sub_i, lt_i, le_i, gt_i, ge_i, neg_i, not_d, len_l, len_t, ix_l, ix_t, max2_i, min2_i, tup_l, tup_t, lst_l, lst_t, rev_l, rev_t, bool_i, bool_b, int_b, isn_n, e_chain, e_par, e_m3, List.length_cons, List.length_nil, List.replicate, List.cons_append, List.nil_append, Option.map_some, Nat.reduceAdd, Nat.reduceSub, Nat.zero_add, if_true, if_false, ite_true, ite_false, Bool.false_eq_true, reduceCtorEq, decide_true, decide_false, not_true, not_false_iff, Bool.not_true, Bool.not_false, Bool.and_true, Bool.true_and, Bool.and_false, Bool.false_and, Bool.or_true, Bool.true_or, Bool.or_false, Bool.false_or, Mi.B_law_draws_1, m8, hg, app_some hl, a1, a2, a3, u5, t1, t2, t3, t4, t5, t6, t7, e1, u1, t8, u2, u3, u4, nums, List.map_append, List.map_cons, List.map_nil]
      · refine ⟨_, _, rfl, ?_, rest / base, row ++ [m2 * m2 * m2 % p3 % base], .val (.int j), .val (.int (m2 * m2 * m2 % p3)), fin _, rfl⟩
        simp only [e_run, e_seq, seq_nx, seq_rt, seq_none, e_skip, e_set, e_own, nxK_some, vK_some, oK_some, e_ret, rtK_some, e_if, ifK_some, e_fVar, e_bVar, va_val, vb_val, vb_own, vb_bor, at_0, at_S, set_0, set_S, e_K, e_f1, o1_some, e_f2, o2_some, e_and, and_t, and_f, and_b, e_or, or_b, e_tOf, to_b, e_tAnd, tand_b, e_tOr, tor_b, e_tNot, not_b, e_tYes, e_fIf, fif_b, e_nil, e_cons, cons_some, e_tup, tup_some, e_lst, lst_some, e_call, call_some, e_m1, e_m2, e_sSeq, seqs_l, seqs_t, seqs_s, e_for, for_some, e_asg, tg_some, e_gN, e_gT2, e_gT3, e_frz, frz_own, e_retOwn, ch_b, e_lc, co_some, lc_some, wipe_nil, wipe_cons, end_rt, end_nx, pt_none, pt_some, int_some, e_cut, cut_l, cut_t, e_app, e_sRng, pad_0, sl_f, sl_t, sl_nil, add_i, sub_i, lt_i, le_i, gt_i, ge_i, neg_i, not_d, len_l, len_t, ix_l, ix_t, max2_i, min2_i, tup_l, tup_t, lst_l, lst_t, rev_l, rev_t, bool_i, bool_b, int_b, isn_n, e_chain, e_par, e_m3, List.length_cons, List.length_nil, List.replicate, List.cons_append, List.nil_append, Option.map_some, Nat.reduceAdd, Nat.reduceSub, Nat.zero_add, if_true, if_false, ite_true, ite_false, Bool.false_eq_true, reduceCtorEq, decide_true, decide_false, not_true, not_false_iff, Bool.not_true, Bool.not_false, Bool.and_true, Bool.true_and, Bool.and_false, Bool.false_and, Bool.or_true, Bool.true_or, Bool.or_false, Bool.false_or, Mi.B_law_draws_1, m8, hg, app_some hl, a1, a2, a3, u5, t1, t2, t3, t4, t5, t6, t7, e1, u1, t8, u2, u3, u4, nums, List.map_append, List.map_cons, List.map_nil]
  have sm := rng_some (j := (many : Int)) (by omega) (by omega)
  have tn : ((many : Int)).toNat = many := by omega
  have fin : ∀ ρ', I many ρ' → ∃ row, Row many base row ∧ atR ρ' 7 = .own (nums row) ∧ ∃ a b, ρ'.set 7 (.val (nums row)) = a ∧ atR a 7 = .val (nums row) := fun ρ' ⟨rest, row, s8, s9, h2, e⟩ => ⟨row, h2, by subst e; rfl, _, 0, rfl, by subst e; rfl⟩
  by_cases h18 : 1000000000000000000 ≤ c
  · obtain ⟨ρ', h1, hI⟩ := loop c
    obtain ⟨row, h2, h3, _, _, rfl, h4⟩ := fin ρ' hI
    refine ⟨row, h2, ?_⟩
    simp only [primes, nums, List.map_nil] at h1 hc h3 h4 ⊢
    simp only [e_run, e_seq, seq_nx, seq_rt, seq_none, e_skip, e_set, e_own, nxK_some, vK_some, oK_some, e_ret, rtK_some, e_if, ifK_some, e_fVar, e_bVar, va_val, vb_val, vb_own, vb_bor, at_0, at_S, set_0, set_S, e_K, e_f1, o1_some, e_f2, o2_some, e_and, and_t, and_f, and_b, e_or, or_b, e_tOf, to_b, e_tAnd, tand_b, e_tOr, tor_b, e_tNot, not_b, e_tYes, e_fIf, fif_b, e_nil, e_cons, cons_some, e_tup, tup_some, e_lst, lst_some, e_call, call_some, e_m1, e_m2, e_sSeq, seqs_l, seqs_t, seqs_s, e_for, for_some, e_asg, tg_some, e_gN, e_gT2, e_gT3, e_frz, frz_own, e_retOwn, ch_b, e_lc, co_some, lc_some, wipe_nil, wipe_cons, end_rt, end_nx, pt_none, pt_some, int_some, e_cut, cut_l, cut_t, e_app, e_sRng, pad_0, sl_f, sl_t, sl_nil, add_i, sub_i, lt_i, le_i, gt_i, ge_i, neg_i, not_d, len_l, len_t, ix_l, ix_t, max2_i, min2_i, tup_l, tup_t, lst_l, lst_t, rev_l, rev_t, bool_i, bool_b, int_b, isn_n, e_chain, e_par, e_m3, List.length_cons, List.length_nil, List.replicate, List.cons_append, List.nil_append, Option.map_some, Nat.reduceAdd, Nat.reduceSub, Nat.zero_add, if_true, if_false, ite_true, ite_false, Bool.false_eq_true, reduceCtorEq, decide_true, decide_false, not_true, not_false_iff, Bool.not_true, Bool.not_false, Bool.and_true, Bool.true_and, Bool.and_false, Bool.false_and, Bool.or_true, Bool.true_or, Bool.or_false, Bool.false_or, Mi.m_law_draws, Mi.G_law_draws, hc, hp, h18, sm, tn]
    rw [h1]
    simp only [e_run, e_seq, seq_nx, seq_rt, seq_none, e_skip, e_set, e_own, nxK_some, vK_some, oK_some, e_ret, rtK_some, e_if, ifK_some, e_fVar, e_bVar, va_val, vb_val, vb_own, vb_bor, at_0, at_S, set_0, set_S, e_K, e_f1, o1_some, e_f2, o2_some, e_and, and_t, and_f, and_b, e_or, or_b, e_tOf, to_b, e_tAnd, tand_b, e_tOr, tor_b, e_tNot, not_b, e_tYes, e_fIf, fif_b, e_nil, e_cons, cons_some, e_tup, tup_some, e_lst, lst_some, e_call, call_some, e_m1, e_m2, e_sSeq, seqs_l, seqs_t, seqs_s, e_for, for_some, e_asg, tg_some, e_gN, e_gT2, e_gT3, e_frz, frz_own, e_retOwn, ch_b, e_lc, co_some, lc_some, wipe_nil, wipe_cons, end_rt, end_nx, pt_none, pt_some, int_some, e_cut, cut_l, cut_t, e_app, e_sRng, pad_0, sl_f, sl_t, sl_nil, add_i, sub_i, lt_i, le_i, gt_i, ge_i, neg_i, not_d, len_l, len_t, ix_l, ix_t, max2_i, min2_i, tup_l, tup_t, lst_l, lst_t, rev_l, rev_t, bool_i, bool_b, int_b, isn_n, e_chain, e_par, e_m3, List.length_cons, List.length_nil, List.replicate, List.cons_append, List.nil_append, Option.map_some, Nat.reduceAdd, Nat.reduceSub, Nat.zero_add, if_true, if_false, ite_true, ite_false, Bool.false_eq_true, reduceCtorEq, decide_true, decide_false, not_true, not_false_iff, Bool.not_true, Bool.not_false, Bool.and_true, Bool.true_and, Bool.and_false, Bool.false_and, Bool.or_true, Bool.true_or, Bool.or_false, Bool.false_or, h3, h4]
  · obtain ⟨ρ', h1, hI⟩ := loop 0
    obtain ⟨row, h2, h3, _, _, rfl, h4⟩ := fin ρ' hI
    refine ⟨row, h2, ?_⟩
    simp only [primes, nums, List.map_nil] at h1 hc h3 h4 ⊢
    simp only [e_run, e_seq, seq_nx, seq_rt, seq_none, e_skip, e_set, e_own, nxK_some, vK_some, oK_some, e_ret, rtK_some, e_if, ifK_some, e_fVar, e_bVar, va_val, vb_val, vb_own, vb_bor, at_0, at_S, set_0, set_S, e_K, e_f1, o1_some, e_f2, o2_some, e_and, and_t, and_f, and_b, e_or, or_b, e_tOf, to_b, e_tAnd, tand_b, e_tOr, tor_b, e_tNot, not_b, e_tYes, e_fIf, fif_b, e_nil, e_cons, cons_some, e_tup, tup_some, e_lst, lst_some, e_call, call_some, e_m1, e_m2, e_sSeq, seqs_l, seqs_t, seqs_s, e_for, for_some, e_asg, tg_some, e_gN, e_gT2, e_gT3, e_frz, frz_own, e_retOwn, ch_b, e_lc, co_some, lc_some, wipe_nil, wipe_cons, end_rt, end_nx, pt_none, pt_some, int_some, e_cut, cut_l, cut_t, e_app, e_sRng, pad_0, sl_f, sl_t, sl_nil, add_i, sub_i, lt_i, le_i, gt_i, ge_i, neg_i, not_d, len_l, len_t, ix_l, ix_t, max2_i, min2_i, tup_l, tup_t, lst_l, lst_t, rev_l, rev_t, bool_i, bool_b, int_b, isn_n, e_chain, e_par, e_m3, List.length_cons, List.length_nil, List.replicate, List.cons_append, List.nil_append, Option.map_some, Nat.reduceAdd, Nat.reduceSub, Nat.zero_add, if_true, if_false, ite_true, ite_false, Bool.false_eq_true, reduceCtorEq, decide_true, decide_false, not_true, not_false_iff, Bool.not_true, Bool.not_false, Bool.and_true, Bool.true_and, Bool.and_false, Bool.false_and, Bool.or_true, Bool.true_or, Bool.or_false, Bool.false_or, Mi.m_law_draws, Mi.G_law_draws, hc, hp, h18, sm, tn]
    rw [h1]
    simp only [e_run, e_seq, seq_nx, seq_rt, seq_none, e_skip, e_set, e_own, nxK_some, vK_some, oK_some, e_ret, rtK_some, e_if, ifK_some, e_fVar, e_bVar, va_val, vb_val, vb_own, vb_bor, at_0, at_S, set_0, set_S, e_K, e_f1, o1_some, e_f2, o2_some, e_and, and_t, and_f, and_b, e_or, or_b, e_tOf, to_b, e_tAnd, tand_b, e_tOr, tor_b, e_tNot, not_b, e_tYes, e_fIf, fif_b, e_nil, e_cons, cons_some, e_tup, tup_some, e_lst, lst_some, e_call, call_some, e_m1, e_m2, e_sSeq, seqs_l, seqs_t, seqs_s, e_for, for_some, e_asg, tg_some, e_gN, e_gT2, e_gT3, e_frz, frz_own, e_retOwn, ch_b, e_lc, co_some, lc_some, wipe_nil, wipe_cons, end_rt, end_nx, pt_none, pt_some, int_some, e_cut, cut_l, cut_t, e_app, e_sRng, pad_0, sl_f, sl_t, sl_nil, add_i, sub_i, lt_i, le_i, gt_i, ge_i, neg_i, not_d, len_l, len_t, ix_l, ix_t, max2_i, min2_i, tup_l, tup_t, lst_l, lst_t, rev_l, rev_t, bool_i, bool_b, int_b, isn_n, e_chain, e_par, e_m3, List.length_cons, List.length_nil, List.replicate, List.cons_append, List.nil_append, Option.map_some, Nat.reduceAdd, Nat.reduceSub, Nat.zero_add, if_true, if_false, ite_true, ite_false, Bool.false_eq_true, reduceCtorEq, decide_true, decide_false, not_true, not_false_iff, Bool.not_true, Bool.not_false, Bool.and_true, Bool.true_and, Bool.and_false, Bool.false_and, Bool.or_true, Bool.true_or, Bool.or_false, Bool.false_or, h3, h4]
end Fact
set_option maxRecDepth 100000
/-! Cords as data; tying; cords by digits. -/
namespace Fact
open PySem Pu
inductive Cd where
  | one (x : Str) (n : Int)
  | tie (ps : List Cd)
mutual
def Cd.d : Cd → D
  | .one x n => .tuple [.str x, .int n]
  | .tie ps => .tuple (Cd.ds ps)
def Cd.ds : List Cd → List D
  | [] => []
  | c :: cs => c.d :: Cd.ds cs
end
mutual
/-- strands, in order -/
def Cd.ss : Cd → List (Str × Int)
  | .one x n => [(x, n)]
  | .tie ps => Cd.sss ps
def Cd.sss : List Cd → List (Str × Int)
  | [] => []
  | c :: cs => c.ss ++ Cd.sss cs
end
mutual
/-- each tie has two parts or more -/
def Cd.ok : Cd → Prop
  | .one _ _ => True
  | .tie ps => 2 ≤ ps.length ∧ Cd.oks ps
def Cd.oks : List Cd → Prop
  | [] => True
  | c :: cs => c.ok ∧ Cd.oks cs
end
mutual
def Cd.dp : Cd → Nat
  | .one _ _ => 0
  | .tie ps => Cd.dps ps + 1
def Cd.dps : List Cd → Nat
  | [] => 0
  | c :: cs => max c.dp (Cd.dps cs)
end
theorem Cd.ds_map : ∀ cs : List Cd, Cd.ds cs = cs.map Cd.d
  | [] => rfl
  | c :: cs => by simp [Cd.ds, Cd.ds_map cs]
theorem Cd.ds_len (cs : List Cd) : (Cd.ds cs).length = cs.length := by rw [Cd.ds_map, List.length_map]
theorem Cd.sss_app : ∀ a b : List Cd, Cd.sss (a ++ b) = Cd.sss a ++ Cd.sss b
  | [], b => rfl
  | c :: a, b => by simp [Cd.sss, Cd.sss_app a b]
theorem Cd.oks_iff : ∀ {cs : List Cd}, Cd.oks cs ↔ ∀ c ∈ cs, c.ok
  | [] => by simp [Cd.oks]
  | c :: cs => by simp [Cd.oks, Cd.oks_iff (cs := cs)]
theorem Cd.sss_pos : ∀ {cs : List Cd}, (∀ c ∈ cs, 1 ≤ c.ss.length) → cs.length ≤ (Cd.sss cs).length
  | [], _ => by simp [Cd.sss]
  | c :: cs, h => by
    have h1 := h c List.mem_cons_self
    have h2 := Cd.sss_pos (cs := cs) fun c m => h c (List.mem_cons_of_mem _ m)
    simp only [Cd.sss, List.length_append, List.length_cons]
    omega
theorem Cd.dps_le : ∀ {cs : List Cd} {n : Nat}, (∀ c ∈ cs, c.dp ≤ n) → Cd.dps cs ≤ n
  | [], _, _ => Nat.zero_le _
  | c :: cs, n, h => Nat.max_le.mpr ⟨h c List.mem_cons_self, Cd.dps_le fun c m => h c (List.mem_cons_of_mem _ m)⟩
theorem Cd.le_dps : ∀ {cs : List Cd} {c : Cd}, c ∈ cs → c.dp ≤ Cd.dps cs
  | c :: cs, x, h => by
    rcases List.mem_cons.mp h with rfl | h
    · exact Nat.le_max_left _ _
    · exact Nat.le_trans (Cd.le_dps h) (Nat.le_max_right _ _)
theorem Cd.ss_mem : ∀ {cs : List Cd} {c : Cd}, c ∈ cs → c.ss.length ≤ (Cd.sss cs).length
  | c :: cs, x, h => by
    simp only [Cd.sss, List.length_append]
    rcases List.mem_cons.mp h with rfl | h
    · omega
    · have := Cd.ss_mem h; omega
mutual
/-- an all-tied thing has a strand, and is no deeper than its strands are many -/
theorem Cd.ok_dp : ∀ c : Cd, c.ok → c.dp + 1 ≤ c.ss.length
  | .one x n, _ => by simp [Cd.dp, Cd.ss]
  | .tie ps, h => by
    obtain ⟨h1, h2⟩ := (by simpa only [Cd.ok] using h : 2 ≤ ps.length ∧ Cd.oks ps)
    have h3 := Cd.oks_dp ps h2
    simp only [Cd.dp, Cd.ss]
    match ps, h1, h2, h3 with
    | a :: b :: r, _, _, h3 => 
      simp only [Cd.dps, Cd.sss, List.length_append, List.length_cons] at h3 ⊢
      have := h3.2 (by simp)
      omega
theorem Cd.oks_dp : ∀ cs : List Cd, Cd.oks cs → cs.length ≤ (Cd.sss cs).length ∧ (cs ≠ [] → Cd.dps cs + cs.length ≤ (Cd.sss cs).length)
  | [], _ => ⟨Nat.le_refl _, fun h => absurd rfl h⟩
  | c :: cs, h => by
    obtain ⟨h1, h2⟩ := (by simpa only [Cd.oks] using h : c.ok ∧ Cd.oks cs)
    have a := Cd.ok_dp c h1
    have b := Cd.oks_dp cs h2
    refine ⟨by simp only [Cd.sss, List.length_append, List.length_cons]; omega, fun _ => ?_⟩
    simp only [Cd.dps, Cd.sss, List.length_append, List.length_cons]
    cases cs with
    | nil => simp only [Cd.dps, Cd.sss, List.length_nil]; omega
    | cons x y =>
      have := b.2 (by simp)
      simp only [List.length_cons] at this ⊢
      omega
end
theorem Cd.ss_one (c : Cd) (h : c.ok) : 1 ≤ c.ss.length := by have := Cd.ok_dp c h; omega

/-! ### while -/
theorem while_ok {t : FB} {body : G} {I : Nat → Rho → Prop} (h : ∀ n ρ, I n ρ → t ρ = some false ∨ (t ρ = some true ∧ ∃ m ρ', m < n ∧ body ρ = some (.nx ρ') ∧ I m ρ')) :
    ∀ (n N : Nat) (ρ : Rho), n < N → I n ρ → ∃ m ρ', whileN t body N ρ = some (.nx ρ') ∧ I m ρ' ∧ t ρ' = some false
  | n, 0, ρ, hn, _ => absurd hn (Nat.not_lt_zero _)
  | n, N + 1, ρ, hn, hI => by
    rcases h n ρ hI with e | ⟨e, m, ρ', hm, e2, hI'⟩
    · exact ⟨n, ρ, by simp only [whileN, e, Option.bind_some, Bool.false_eq_true, if_false], hI, e⟩
    · obtain ⟨m2, ρ2, a, b, c⟩ := while_ok h m N ρ' (by omega) hI'
      exact ⟨m2, ρ2, by simp only [whileN, e, Option.bind_some, if_true, e2, a], b, c⟩
theorem cut_to {α : Type} (xs : List α) (n : Nat) : cutL xs none (some (n : Int)) = xs.take n := by
  unfold cutL
  rw [HT.sIx_none, HT.sIx_nat]
  simp only [List.drop_zero, Nat.sub_zero]
  rcases Nat.le_total n xs.length with h | h
  · rw [Nat.min_eq_left h]
  · rw [Nat.min_eq_right h, List.take_length, List.take_of_length_le h]
theorem cut_from {α : Type} (xs : List α) (n : Nat) : cutL xs (some (n : Int)) none = xs.drop n := by
  unfold cutL
  rw [HT.sIx_none, HT.sIx_nat]
  rcases Nat.le_total n xs.length with h | h
  · rw [Nat.min_eq_left h, List.take_of_length_le (by rw [List.length_drop]; omega)]
  · rw [Nat.min_eq_right h, Nat.sub_self, List.take_zero, List.drop_of_length_le h]
theorem cut_mid {α : Type} (xs : List α) (n m : Nat) (h : n ≤ m) (h2 : m ≤ xs.length) : cutL xs (some (n : Int)) (some (m : Int)) = (xs.drop n).take (m - n) := by
  unfold cutL
  rw [HT.sIx_nat, HT.sIx_nat, Nat.min_eq_left h2, Nat.min_eq_left (by omega)]
/-- [1, 2, 7][d % 3] -/
theorem pick3 (a b c : Int) (d : Int) : ∃ x, (x = a ∨ x = b ∨ x = c) ∧ L2.atI [PyData.int a, .int b, .int c] (d % 3) = some (.int x) := by
  have h0 := Int.emod_nonneg d (b := 3) (by decide)
  have h1 := Int.emod_lt_of_pos d (b := 3) (by decide)
  generalize d % 3 = j at h0 h1
  have : j = 0 ∨ j = 1 ∨ j = 2 := by omega
  rcases this with rfl | rfl | rfl
  · exact ⟨a, Or.inl rfl, rfl⟩
  · exact ⟨b, Or.inr (Or.inl rfl), rfl⟩
  · exact ⟨c, Or.inr (Or.inr rfl), rfl⟩
theorem nums_at {ns : List Int} {i : Int} (h0 : 0 ≤ i) (h1 : i < ns.length) : ∃ n, n ∈ ns ∧ ns[i.toNat]? = some n ∧ L2.atI (ns.map PyData.int) i = some (.int n) := by
  obtain ⟨x, h2, h3⟩ := atI_at (xs := ns.map PyData.int) h0 (by simpa using h1)
  rw [List.getElem?_map] at h2
  cases e : ns[i.toNat]? with
  | none => rw [e] at h2; cases h2
  | some n =>
    rw [e] at h2
    cases h2
    exact ⟨n, List.mem_of_getElem? e, rfl, h3⟩

theorem oks_of_sub {a b : List Cd} (h : ∀ c ∈ a, c ∈ b) (hb : Cd.oks b) : Cd.oks a := Cd.oks_iff.mpr fun c m => Cd.oks_iff.mp hb c (h c m)
/-- what tying makes of so many things -/
theorem tied_ok (cs : List Cd) (dr : List Int) (hc : cs ≠ []) (hl : cs.length < 1000) (hd : dr ≠ []) (hp : ∀ n ∈ dr, 0 ≤ n) (ho : Cd.oks cs) {src : D} (hs : lstD src = some (.list (Cd.ds cs))) :
    ∃ c : Cd, Mi.m_law_tied [src, nums dr] = some c.d ∧ c.ss = Cd.sss cs ∧ c.ok := by
  let I : Nat → Rho → Prop := fun n ρ => ∃ (ts : List Cd) (at_ : Int) (a b c : Slot), n = ts.length ∧ ts ≠ [] ∧ ts.length < 1000 ∧ 0 ≤ at_ ∧ Cd.sss ts = Cd.sss cs ∧ Cd.oks ts ∧
    ρ = [.val src, .val (nums dr), .val (.list (Cd.ds ts)), .val (.int at_), a, b, c]
  have hdl : (0 : Int) < dr.length := by have := List.length_pos_iff.mpr hd; omega
  have draw : ∀ i : Int, ∃ n, 0 ≤ n ∧ L2.atI (dr.map PyData.int) (i % dr.length) = some (.int n) := fun i => by
    obtain ⟨n, h1, _, h2⟩ := nums_at (ns := dr) (i := i % dr.length) (Int.emod_nonneg _ (by omega)) (Int.emod_lt_of_pos _ hdl)
    exact ⟨n, hp n h1, h2⟩
  obtain ⟨d0, h00, hd0⟩ : ∃ n, 0 ≤ n ∧ L2.atI (dr.map PyData.int) 0 = some (.int n) := by
    obtain ⟨n, h1, _, h2⟩ := nums_at (ns := dr) (i := 0) (by omega) hdl
    exact ⟨n, hp n h1, h2⟩
  have step : ∀ n ρ, I n ρ → tOf (f2 gtD (fCall (m1 lenD) [bVar 2]) (fK (.int 1))) ρ = some false ∨ (tOf (f2 gtD (fCall (m1 lenD) [bVar 2]) (fK (.int 1))) ρ = some true ∧ ∃ m ρ', m < n ∧ Mi.B_law_tied_1 ρ = some (.nx ρ') ∧ I m ρ') := by
    rintro n _ ⟨ts, at_, a, b, c, rfl, h0, h1, h2, h3, h4, rfl⟩
    have e1 : (Cd.ds ts).length = ts.length := Cd.ds_len ts
    by_cases hg : (1 : Int) < ts.length
    · refine Or.inr ⟨by simp only [e_run, e_seq, seq_nx, seq_rt, seq_none, e_skip, e_set, e_own, nxK_some, vK_some, oK_some, e_ret, rtK_some, e_if, ifK_some, e_fVar, e_bVar, va_val, vb_val, vb_own, vb_bor, at_0, at_S, set_0, set_S, e_K, e_f1, o1_some, e_f2, o2_some, e_and, and_t, and_f, and_b, e_or, or_b, e_tOf, to_b, e_tAnd, tand_b, e_tOr, tor_b, e_tNot, not_b, e_tYes, e_fIf, fif_b, e_nil, e_cons, cons_some, e_tup, tup_some, e_lst, lst_some, e_call, call_some, e_m1, e_m2, e_sSeq, seqs_l, seqs_t, seqs_s, e_for, for_some, e_asg, tg_some, e_gN, e_gT2, e_gT3, e_frz, frz_own, e_retOwn, ch_b, e_lc, co_some, lc_some, wipe_nil, wipe_cons, end_rt, end_nx, pt_none, pt_some, int_some, e_cut, cut_l, cut_t, e_app, e_sRng, pad_0, sl_f, sl_t, sl_nil, add_i, sub_i, lt_i, le_i, gt_i, ge_i, neg_i, not_d, len_l, len_t, ix_l, ix_t, max2_i, min2_i, tup_l, tup_t, lst_l, lst_t, rev_l, rev_t, bool_i, bool_b, int_b, isn_n, e_chain, e_par, e_m3, List.length_cons, List.length_nil, List.replicate, List.cons_append, List.nil_append, Option.map_some, Nat.reduceAdd, Nat.reduceSub, Nat.zero_add, if_true, if_false, ite_true, ite_false, Bool.false_eq_true, reduceCtorEq, decide_true, decide_false, not_true, not_false_iff, Bool.not_true, Bool.not_false, Bool.and_true, Bool.true_and, Bool.and_false, Bool.false_and, Bool.or_true, Bool.true_or, Bool.or_false, Bool.false_or, e1, hg], ?_⟩
      obtain ⟨x1, p1, q1⟩ := draw at_
      obtain ⟨x2, p2, q2⟩ := draw (at_ + 1)
      obtain ⟨m3, w3, q3⟩ := pick3 1 2 7 d0
      have m3p : 0 < m3 := by omega
      have r1 : modD (.int at_) (.int dr.length) = some (.int (at_ % dr.length)) := mod_ok hdl
      have r2 : modD (.int (at_ + 1)) (.int dr.length) = some (.int ((at_ + 1) % dr.length)) := mod_ok hdl
      have r3 : modD (.int d0) (.int 3) = some (.int (d0 % 3)) := mod_ok (by decide)
      have r4 : modD (.int x1) (.int m3) = some (.int (x1 % m3)) := mod_ok m3p
      have u1 := Int.emod_nonneg x1 (b := m3) (by omega)
      obtain ⟨M, hM⟩ : ∃ M : Nat, (M : Int) = min (ts.length : Int) (2 + x1 % m3) := ⟨(min (ts.length : Int) (2 + x1 % m3)).toNat, by omega⟩
      have hM2 : 2 ≤ M ∧ M ≤ ts.length := by omega
      have r5 : modD (.int x2) (.int ((ts.length : Int) - M + 1)) = some (.int (x2 % ((ts.length : Int) - M + 1))) := mod_ok (by omega)
      have u2 := Int.emod_nonneg x2 (b := (ts.length : Int) - M + 1) (by omega)
      have u3 := Int.emod_lt_of_pos x2 (b := (ts.length : Int) - M + 1) (by omega)
      obtain ⟨f, hf⟩ : ∃ f : Nat, (f : Int) = x2 % ((ts.length : Int) - M + 1) := ⟨(x2 % ((ts.length : Int) - M + 1)).toNat, by omega⟩
      have hfl : f + M ≤ ts.length := by omega
      rw [← hf] at r5
      have cast : (f : Int) + (M : Int) = ((f + M : Nat) : Int) := by omega
      have k1 : cutL (Cd.ds ts) none (some (f : Int)) = Cd.ds (ts.take f) := by rw [cut_to, Cd.ds_map, Cd.ds_map, List.map_take]
      have k2 : cutL (Cd.ds ts) (some (f : Int)) (some ((f + M : Nat) : Int)) = Cd.ds ((ts.drop f).take M) := by
        rw [cut_mid _ _ _ (by omega) (by rw [e1]; exact hfl), Cd.ds_map, Cd.ds_map, List.map_take, List.map_drop, Nat.add_sub_cancel_left]
      have k3 : cutL (Cd.ds ts) (some ((f + M : Nat) : Int)) none = Cd.ds (ts.drop (f + M)) := by rw [cut_from, Cd.ds_map, Cd.ds_map, List.map_drop]
      let T : List Cd := ts.take f ++ [Cd.tie ((ts.drop f).take M)] ++ ts.drop (f + M)
      have lT : T.length = ts.length - M + 1 := by simp [T]; omega
      have v1 : addD (.list (Cd.ds (ts.take f))) (.list [.tuple (Cd.ds ((ts.drop f).take M))]) = some (.list (Cd.ds (ts.take f) ++ [.tuple (Cd.ds ((ts.drop f).take M))])) := add_l (by
        rw [Cd.ds_len, List.length_take, List.length_singleton]
        exact Nat.le_trans (show _ ≤ 1001 by omega) (by decide))
      have v2 : addD (.list (Cd.ds (ts.take f) ++ [.tuple (Cd.ds ((ts.drop f).take M))])) (.list (Cd.ds (ts.drop (f + M)))) = some (.list (Cd.ds T)) := by
        rw [add_l (by
          rw [List.length_append, Cd.ds_len, Cd.ds_len, List.length_take, List.length_singleton, List.length_drop]
          exact Nat.le_trans (show _ ≤ 2001 by omega) (by decide))]
        simp [T, Cd.ds_map, Cd.d]
      refine ⟨T.length, [.val src, .val (nums dr), .val (.list (Cd.ds T)), .val (.int (at_ + 2)), .val (.int M), .val (.int f), .val (.int ((f + M : Nat) : Int))], by omega, ?_, T, at_ + 2, _, _, _, rfl, ?_, ?_, by omega, ?_, ?_, rfl⟩
      · simp only [e_run, e_seq, seq_nx, seq_rt, seq_none, e_skip, e_set, e_own, nxK_some, vK_some, oK_some, e_ret, rtK_some, e_if, ifK_some, e_fVar, e_bVar, va_val, vb_val, vb_own, vb_bor, at_0, at_S, set_0, set_S, e_K, e_f1, o1_some, e_f2, o2_some, e_and, and_t, and_f, and_b, e_or, or_b, e_tOf, to_b, e_tAnd, tand_b, e_tOr, tor_b, e_tNot, not_b, e_tYes, e_fIf, fif_b, e_nil, e_cons, cons_some, e_tup, tup_some, e_lst, lst_some, e_call, call_some, e_m1, e_m2, e_sSeq, seqs_l, seqs_t, seqs_s, e_for, for_some, e_asg, tg_some, e_gN, e_gT2, e_gT3, e_frz, frz_own, e_retOwn, ch_b, e_lc, co_some, lc_some, wipe_nil, wipe_cons, end_rt, end_nx, pt_none, pt_some, int_some, e_cut, cut_l, cut_t, e_app, e_sRng, pad_0, sl_f, sl_t, sl_nil, add_i, sub_i, lt_i, le_i, gt_i, ge_i, neg_i, not_d, len_l, len_t, ix_l, ix_t, max2_i, min2_i, tup_l, tup_t, lst_l, lst_t, rev_l, rev_t, bool_i, bool_b, int_b, isn_n, e_chain, e_par, e_m3, List.length_cons, List.length_nil, List.replicate, List.cons_append, List.nil_append, Option.map_some, Nat.reduceAdd, Nat.reduceSub, Nat.zero_add, if_true, if_false, ite_true, ite_false, Bool.false_eq_true, reduceCtorEq, decide_true, decide_false, not_true, not_false_iff, Bool.not_true, Bool.not_false, Bool.and_true, Bool.true_and, Bool.and_false, Bool.false_and, Bool.or_true, Bool.true_or, Bool.or_false, Bool.false_or, Mi.B_law_tied_1, nums, e1, List.length_map, r1, q1, hd0, r3, q3, r4, ← hM, r2, q2, r5, cast, k1, k2, k3, v1, v2]
      · intro h; have := congrArg List.length h; rw [lT] at this; simp at this
      · omega
      · show Cd.sss (ts.take f ++ [Cd.tie ((ts.drop f).take M)] ++ ts.drop (f + M)) = _
        rw [Cd.sss_app, Cd.sss_app, ← h3]
        simp only [Cd.sss, Cd.ss, List.append_nil]
        rw [← Cd.sss_app, ← Cd.sss_app, ← List.drop_drop, List.append_assoc, List.take_append_drop, List.take_append_drop]
      · refine Cd.oks_iff.mpr fun c hc => ?_
        have all := Cd.oks_iff.mp h4
        rcases List.mem_append.mp hc with hc | hc
        · rcases List.mem_append.mp hc with hc | hc
          · exact all c (List.mem_of_mem_take hc)
          · rw [List.mem_singleton.mp hc]
            simp only [Cd.ok]
            refine ⟨by simp; omega, Cd.oks_iff.mpr fun c hc => all c (List.mem_of_mem_drop (List.mem_of_mem_take hc))⟩
        · exact all c (List.mem_of_mem_drop hc)
    · refine Or.inl ?_
      simp only [e_run, e_seq, seq_nx, seq_rt, seq_none, e_skip, e_set, e_own, nxK_some, vK_some, oK_some, e_ret, rtK_some, e_if, ifK_some, e_fVar, e_bVar, va_val, vb_val, vb_own, vb_bor, at_0, at_S, set_0, set_S, e_K, e_f1, o1_some, e_f2, o2_some, e_and, and_t, and_f, and_b, e_or, or_b, e_tOf, to_b, e_tAnd, tand_b, e_tOr, tor_b, e_tNot, not_b, e_tYes, e_fIf, fif_b, e_nil, e_cons, cons_some, e_tup, tup_some, e_lst, lst_some, e_call, call_some, e_m1, e_m2, e_sSeq, seqs_l, seqs_t, seqs_s, e_for, for_some, e_asg, tg_some, e_gN, e_gT2, e_gT3, e_frz, frz_own, e_retOwn, ch_b, e_lc, co_some, lc_some, wipe_nil, wipe_cons, end_rt, end_nx, pt_none, pt_some, int_some, e_cut, cut_l, cut_t, e_app, e_sRng, pad_0, sl_f, sl_t, sl_nil, add_i, sub_i, lt_i, le_i, gt_i, ge_i, neg_i, not_d, len_l, len_t, ix_l, ix_t, max2_i, min2_i, tup_l, tup_t, lst_l, lst_t, rev_l, rev_t, bool_i, bool_b, int_b, isn_n, e_chain, e_par, e_m3, List.length_cons, List.length_nil, List.replicate, List.cons_append, List.nil_append, Option.map_some, Nat.reduceAdd, Nat.reduceSub, Nat.zero_add, if_true, if_false, ite_true, ite_false, Bool.false_eq_true, reduceCtorEq, decide_true, decide_false, not_true, not_false_iff, Bool.not_true, Bool.not_false, Bool.and_true, Bool.true_and, Bool.and_false, Bool.false_and, Bool.or_true, Bool.true_or, Bool.or_false, Bool.false_or, e1, hg]
  obtain ⟨m, ρ', h1, ⟨ts, at_, a, b, c, rfl, k0, k1, k2, k3, k4, rfl⟩, h2⟩ := while_ok step cs.length 100000 [.val src, .val (nums dr), .val (.list (Cd.ds cs)), .val (.int 0), .no, .no, .no] (by omega) ⟨cs, 0, _, _, _, rfl, hc, hl, by omega, rfl, ho, rfl⟩
  have e1 : (Cd.ds ts).length = ts.length := Cd.ds_len ts
  have hlen : ¬ (1 : Int) < ts.length := by
    intro hg
    have h3 : tOf (f2 gtD (fCall (m1 lenD) [bVar 2]) (fK (.int 1))) [.val src, .val (nums dr), .val (.list (Cd.ds ts)), .val (.int at_), a, b, c] = some true := by simp only [e_run, e_seq, seq_nx, seq_rt, seq_none, e_skip, e_set, e_own, nxK_some, vK_some, oK_some, e_ret, rtK_some, e_if, ifK_some, e_fVar, e_bVar, va_val, vb_val, vb_own, vb_bor, at_0, at_S, set_0, set_S, e_K, e_f1, o1_some, e_f2, o2_some, e_and, and_t, and_f, and_b, e_or, or_b, e_tOf, to_b, e_tAnd, tand_b, e_tOr, tor_b, e_tNot, not_b, e_tYes, e_fIf, fif_b, e_nil, e_cons, cons_some, e_tup, tup_some, e_lst, lst_some, e_call, call_some, e_m1, e_m2, e_sSeq, seqs_l, seqs_t, seqs_s, e_for, for_some, e_asg, tg_some, e_gN, e_gT2, e_gT3, e_frz, frz_own, e_retOwn, ch_b, e_lc, co_some, lc_some, wipe_nil, wipe_cons, end_rt, end_nx, pt_none, pt_some, int_some, e_cut, cut_l, cut_t, e_app, e_sRng, pad_0, sl_f, sl_t, sl_nil, add_i, sub_i, lt_i, le_i, gt_i, ge_i, neg_i, not_d, len_l, len_t, ix_l, ix_t, max2_i, min2_i, tup_l, tup_t, lst_l, lst_t, rev_l, rev_t, bool_i, bool_b, int_b, isn_n, e_chain, e_par, e_m3, List.length_cons, List.length_nil, List.replicate, List.cons_append, List.nil_append, Option.map_some, Nat.reduceAdd, Nat.reduceSub, Nat.zero_add, if_true, if_false, ite_true, ite_false, Bool.false_eq_true, reduceCtorEq, decide_true, decide_false, not_true, not_false_iff, Bool.not_true, Bool.not_false, Bool.and_true, Bool.true_and, Bool.and_false, Bool.false_and, Bool.or_true, Bool.true_or, Bool.or_false, Bool.false_or, e1, hg]
    rw [h3] at h2
    cases h2
  match ts, k0, hlen, k3, k4, h1 with
  | [t], _, _, k3, k4, h1 =>
    refine ⟨t, ?_, by rw [← k3]; simp [Cd.sss], (by simpa only [Cd.oks, and_true] using k4)⟩
    have e2 : L2.atI (Cd.ds [t]) 0 = some t.d := rfl
    simp only [e_run, e_seq, seq_nx, seq_rt, seq_none, e_skip, e_set, e_own, nxK_some, vK_some, oK_some, e_ret, rtK_some, e_if, ifK_some, e_fVar, e_bVar, va_val, vb_val, vb_own, vb_bor, at_0, at_S, set_0, set_S, e_K, e_f1, o1_some, e_f2, o2_some, e_and, and_t, and_f, and_b, e_or, or_b, e_tOf, to_b, e_tAnd, tand_b, e_tOr, tor_b, e_tNot, not_b, e_tYes, e_fIf, fif_b, e_nil, e_cons, cons_some, e_tup, tup_some, e_lst, lst_some, e_call, call_some, e_m1, e_m2, e_sSeq, seqs_l, seqs_t, seqs_s, e_for, for_some, e_asg, tg_some, e_gN, e_gT2, e_gT3, e_frz, frz_own, e_retOwn, ch_b, e_lc, co_some, lc_some, wipe_nil, wipe_cons, end_rt, end_nx, pt_none, pt_some, int_some, e_cut, cut_l, cut_t, e_app, e_sRng, pad_0, sl_f, sl_t, sl_nil, add_i, sub_i, lt_i, le_i, gt_i, ge_i, neg_i, not_d, len_l, len_t, ix_l, ix_t, max2_i, min2_i, tup_l, tup_t, lst_l, lst_t, rev_l, rev_t, bool_i, bool_b, int_b, isn_n, e_chain, e_par, e_m3, List.length_cons, List.length_nil, List.replicate, List.cons_append, List.nil_append, Option.map_some, Nat.reduceAdd, Nat.reduceSub, Nat.zero_add, if_true, if_false, ite_true, ite_false, Bool.false_eq_true, reduceCtorEq, decide_true, decide_false, not_true, not_false_iff, Bool.not_true, Bool.not_false, Bool.and_true, Bool.true_and, Bool.and_false, Bool.false_and, Bool.or_true, Bool.true_or, Bool.or_false, Bool.false_or, Mi.m_law_tied, Mi.G_law_tied, e_par, hs, gWhile]
    rw [h1]
    simp only [e_run, e_seq, seq_nx, seq_rt, seq_none, e_skip, e_set, e_own, nxK_some, vK_some, oK_some, e_ret, rtK_some, e_if, ifK_some, e_fVar, e_bVar, va_val, vb_val, vb_own, vb_bor, at_0, at_S, set_0, set_S, e_K, e_f1, o1_some, e_f2, o2_some, e_and, and_t, and_f, and_b, e_or, or_b, e_tOf, to_b, e_tAnd, tand_b, e_tOr, tor_b, e_tNot, not_b, e_tYes, e_fIf, fif_b, e_nil, e_cons, cons_some, e_tup, tup_some, e_lst, lst_some, e_call, call_some, e_m1, e_m2, e_sSeq, seqs_l, seqs_t, seqs_s, e_for, for_some, e_asg, tg_some, e_gN, e_gT2, e_gT3, e_frz, frz_own, e_retOwn, ch_b, e_lc, co_some, lc_some, wipe_nil, wipe_cons, end_rt, end_nx, pt_none, pt_some, int_some, e_cut, cut_l, cut_t, e_app, e_sRng, pad_0, sl_f, sl_t, sl_nil, add_i, sub_i, lt_i, le_i, gt_i, ge_i, neg_i, not_d, len_l, len_t, ix_l, ix_t, max2_i, min2_i, tup_l, tup_t, lst_l, lst_t, rev_l, rev_t, bool_i, bool_b, int_b, isn_n, e_chain, e_par, e_m3, List.length_cons, List.length_nil, List.replicate, List.cons_append, List.nil_append, Option.map_some, Nat.reduceAdd, Nat.reduceSub, Nat.zero_add, if_true, if_false, ite_true, ite_false, Bool.false_eq_true, reduceCtorEq, decide_true, decide_false, not_true, not_false_iff, Bool.not_true, Bool.not_false, Bool.and_true, Bool.true_and, Bool.and_false, Bool.false_and, Bool.or_true, Bool.true_or, Bool.or_false, Bool.false_or, e2]
  | x :: y :: r, _, hlen, _, _, _ => simp only [List.length_cons] at hlen; omega
end Fact
set_option maxRecDepth 100000
/-! Cords by digits. -/
namespace Fact
open PySem Pu
theorem pick4 (a b c e : Int) (d : Int) : ∃ x, (x = a ∨ x = b ∨ x = c ∨ x = e) ∧ L2.atI [PyData.int a, .int b, .int c, .int e] (d % 4) = some (.int x) := by
  have h0 := Int.emod_nonneg d (b := 4) (by decide)
  have h1 := Int.emod_lt_of_pos d (b := 4) (by decide)
  generalize d % 4 = j at h0 h1
  have : j = 0 ∨ j = 1 ∨ j = 2 ∨ j = 3 := by omega
  rcases this with rfl | rfl | rfl | rfl
  · exact ⟨a, Or.inl rfl, rfl⟩
  · exact ⟨b, Or.inr (Or.inl rfl), rfl⟩
  · exact ⟨c, Or.inr (Or.inr (Or.inl rfl)), rfl⟩
  · exact ⟨e, Or.inr (Or.inr (Or.inr rfl)), rfl⟩
theorem twos_at (i : Int) : ∃ p : Int, L2.atI [PyData.int 1, .int 2, .int 4, .int 8, .int 16, .int 32, .int 64, .int 99] (i % 8) = some (.int p) ∧ 1 ≤ p ∧ p ≤ 99 := by
  have h0 := Int.emod_nonneg i (b := 8) (by decide)
  have h1 := Int.emod_lt_of_pos i (b := 8) (by decide)
  generalize i % 8 = j at h0 h1
  have : j = 0 ∨ j = 1 ∨ j = 2 ∨ j = 3 ∨ j = 4 ∨ j = 5 ∨ j = 6 ∨ j = 7 := by omega
  rcases this with rfl | rfl | rfl | rfl | rfl | rfl | rfl | rfl <;> exact ⟨_, rfl, by decide, by decide⟩
theorem appPop_ok {i j : Nat} {k v : F1} {ρ : Rho} {ds es : List D} {n : Int} {x y : D} (hi : atR ρ i = .own (.list ds)) (hj : atR ρ j = .own (.list es)) (hk : k ρ = some (.int n)) (h0 : 0 ≤ n) (h1 : n < es.length) (h2 : ds.length < sizeLine) (h3 : es.length < sizeLine) (hij : i ≠ j)
    (hx : es[n.toNat]? = some x) (hv : v (ρ.set j (.own (.list (es.eraseIdx n.toNat)))) = some y) :
    gAppPop i j k v ρ = some (.nx ((ρ.set j (.own (.list (es.eraseIdx n.toNat)))).set i (.own (.list (ds ++ [.tuple [x, y]]))))) := by
  unfold gAppPop
  rw [hk, Option.bind_some, hi, hj]
  show (if _ = true then _ else _) = _
  rw [if_pos (by simp only [Bool.and_eq_true, decide_eq_true_eq]; exact ⟨⟨⟨⟨h0, h1⟩, h2⟩, h3⟩, hij⟩), hv, Option.bind_some, hx, Option.map_some]
theorem erase_map {α β : Type} (f : α → β) : ∀ (l : List α) (i : Nat), (l.map f).eraseIdx i = (l.eraseIdx i).map f
  | [], _ => rfl
  | a :: l, 0 => rfl
  | a :: l, i + 1 => by simp [List.eraseIdx, erase_map f l i]
theorem erase_perm {α : Type} : ∀ (l : List α) (i : Nat) (h : i < l.length), (l[i] :: l.eraseIdx i).Perm l
  | a :: l, 0, _ => List.Perm.refl _
  | a :: l, i + 1, h => by
    simp only [List.getElem_cons_succ, List.eraseIdx_cons_succ]
    exact (List.Perm.swap _ _ _).trans ((erase_perm l i (by simpa using h)).cons a)
def base8 : List Str := ["ax", "bo", "cy", "dot", "elk", "fig", "gnu", "hop"]
def strD (s : Str × Int) : D := .tuple [.str s.1, .int s.2]
/-- strands with unlike names out of eight, strengths to 99 -/
structure Good (most : Nat) (ss : List (Str × Int)) : Prop where
  pos : ss ≠ []
  len : ss.length ≤ most
  nd : (ss.map (·.1)).Nodup
  mem : ∀ s ∈ ss, s.1 ∈ base8
  str : ∀ s ∈ ss, 1 ≤ s.2 ∧ s.2 ≤ 99
theorem ds_ones : ∀ ss : List (Str × Int), Cd.ds (ss.map fun s => Cd.one s.1 s.2) = ss.map strD
  | [] => rfl
  | s :: r => by simp [Cd.ds, ds_ones r, Cd.d, strD]
theorem sss_ones : ∀ ss : List (Str × Int), Cd.sss (ss.map fun s => Cd.one s.1 s.2) = ss
  | [] => rfl
  | s :: r => by simp [Cd.sss, sss_ones r, Cd.ss]
theorem oks_ones : ∀ ss : List (Str × Int), Cd.oks (ss.map fun s => Cd.one s.1 s.2)
  | [] => trivial
  | s :: r => ⟨trivial, oks_ones r⟩
theorem cord_ok (dr : List Int) (most : Nat) (hl : 26 ≤ dr.length) (hp : ∀ n ∈ dr, 0 ≤ n) (h1 : 1 ≤ most) (h8 : most ≤ 8) :
    ∃ c : Cd, Mi.m_law_cord [nums dr, .int most] = some c.d ∧ c.ok ∧ Good most c.ss := by
  have draw : ∀ i : Nat, i < 26 → ∃ n, 0 ≤ n ∧ L2.atI (dr.map PyData.int) (i : Int) = some (.int n) := fun i hi => by
    obtain ⟨n, h1, _, h2⟩ := nums_at (ns := dr) (i := i) (by omega) (by omega)
    exact ⟨n, hp n h1, h2⟩
  obtain ⟨d0, p0, q0⟩ := draw 0 (by omega)
  obtain ⟨d1, p1, q1⟩ := draw 1 (by omega)
  replace q1 : L2.atI (dr.map PyData.int) 1 = some (.int d1) := q1
  have r0 : divD (.int d0) (.int 4) = some (.int (d0 / 4)) := div_ok (by decide) (by decide)
  have r1 : modD (.int (d0 / 4)) (.int most) = some (.int (d0 / 4 % most)) := mod_ok (by omega)
  have r2 : modD (.int d0) (.int 4) = some (.int (d0 % 4)) := mod_ok (by decide)
  have r3 : modD (.int d1) (.int 4) = some (.int (d1 % 4)) := mod_ok (by decide)
  obtain ⟨my, w, q2⟩ := pick4 most (1 + d0 / 4 % most) (min 3 most) (min 5 most) d0
  have e1 := Int.emod_nonneg (d0 / 4) (b := (most : Int)) (by omega)
  have e2 := Int.emod_lt_of_pos (d0 / 4) (b := (most : Int)) (by omega)
  obtain ⟨many, rfl⟩ : ∃ m : Nat, (m : Int) = my := ⟨my.toNat, by omega⟩
  have hm : 1 ≤ many ∧ many ≤ most := by omega
  let I : Nat → Rho → Prop := fun j ρ => ∃ (ns : List Str) (ss : List (Str × Int)) (a b c : Slot), ss.length = j ∧ (ss.map (·.1) ++ ns).Perm base8 ∧ (∀ s ∈ ss, 1 ≤ s.2 ∧ s.2 ≤ 99) ∧
    ρ = [.val (nums dr), .val (.int most), .val (.int many), .own (.list (ns.map .str)), .own (.list (ss.map strD)), a, b, c]
  have loop : ∃ ρ', forL (gN 5) Mi.B_law_cord_1 (rngL many 0) [.val (nums dr), .val (.int most), .val (.int many), .own (.list (base8.map .str)), .own (.list []), .no, .no, .no] = some (.nx ρ') ∧ I many ρ' :=
    forL_rng (I := I) (n := many) (j := 0) (m := many) (lo := 0) (by omega) ⟨base8, [], _, _, _, rfl, List.Perm.refl _, fun _ h => (by cases h), rfl⟩ fun j ρ _ hj ⟨ns, ss, a, b, c, hj2, hpm, hst, e⟩ => by
      subst e
      have hlen := hpm.length_eq
      rw [List.length_append, List.length_map, hj2, show base8.length = 8 from rfl] at hlen
      obtain ⟨x, px, qx⟩ := draw (2 + j) (by omega)
      have cast : (2 : Int) + (j : Int) = ((2 + j : Nat) : Int) := by omega
      obtain ⟨p8, b8, c8⟩ := twos_at x
      have s1 : modD (.int x) (.int 99) = some (.int (x % 99)) := mod_ok (by decide)
      have s2 : modD (.int x) (.int 4) = some (.int (x % 4)) := mod_ok (by decide)
      have s3 : modD (.int x) (.int 8) = some (.int (x % 8)) := mod_ok (by decide)
      have s4 : modD (.int x) (.int 12) = some (.int (x % 12)) := mod_ok (by decide)
      obtain ⟨st, w4, q4⟩ := pick4 (1 + x % 99) (1 + x % 4) p8 (1 + x % 12) d1
      have hst2 : 1 ≤ st ∧ st ≤ 99 := by omega
      have s5 : divD (.int x) (.int 100) = some (.int (x / 100)) := div_ok (by decide) (by decide)
      have hnl : (0 : Int) < ns.length := by omega
      have s6 : modD (.int (x / 100)) (.int ns.length) = some (.int (x / 100 % ns.length)) := mod_ok hnl
      have u1 := Int.emod_nonneg (x / 100) (b := (ns.length : Int)) (by omega)
      have u2 := Int.emod_lt_of_pos (x / 100) hnl
      generalize x / 100 % (ns.length : Int) = y at s6 u1 u2
      obtain ⟨i, rfl⟩ := Int.eq_ofNat_of_zero_le u1
      have hi : i < ns.length := by omega
      have o : (0 : Int) + ((j - 0 : Nat) : Int) = j := by omega
      rw [o]
      have era : (ns.map PyData.str).eraseIdx i = (ns.eraseIdx i).map PyData.str := erase_map _ _ _
      let ρ1 : Rho := [.val (nums dr), .val (.int most), .val (.int many), .own (.list (ns.map .str)), .own (.list (ss.map strD)), .val (.int j), .val (.int x), .val (.int st)]
      have pop := appPop_ok (i := 4) (j := 3) (ρ := ρ1) (k := f2 modD (f2 divD (bVar 6) (fK (.int 100))) (fCall (m1 lenD) [bVar 3])) (v := fVar 7) (ds := ss.map strD) (es := ns.map .str) (n := (i : Int)) (x := .str ns[i]) (y := .int st) rfl rfl
        (by simp only [e_run, e_seq, seq_nx, seq_rt, seq_none, e_skip, e_set, e_own, nxK_some, vK_some, oK_some, e_ret, rtK_some, e_if, ifK_some, e_fVar, e_bVar, va_val, vb_val, vb_own, vb_bor, at_0, at_S, set_0, set_S, e_K, e_f1, o1_some, e_f2, o2_some, e_and, and_t, and_f, and_b, e_or, or_b, e_tOf, to_b, e_tAnd, tand_b, e_tOr, tor_b, e_tNot, not_b, e_tYes, e_fIf, fif_b, e_nil, e_cons, cons_some, e_tup, tup_some, e_lst, lst_some, e_call, call_some, e_m1, e_m2, e_sSeq, seqs_l, seqs_t, seqs_s, e_for, for_some, e_asg, tg_some, e_gN, e_gT2, e_gT3, e_frz, frz_own, e_retOwn, ch_b, e_lc, co_some, lc_some, wipe_nil, wipe_cons, end_rt, end_nx, pt_none, pt_some, int_some, e_cut, cut_l, cut_t, e_app, e_sRng, pad_0, sl_f, sl_t, sl_nil, add_i, sub_i, lt_i, le_i, gt_i, ge_i, neg_i, not_d, len_l, len_t, ix_l, ix_t, max2_i, min2_i, tup_l, tup_t, lst_l, lst_t, rev_l, rev_t, bool_i, bool_b, int_b, isn_n, e_chain, e_par, e_m3, List.length_cons, List.length_nil, List.replicate, List.cons_append, List.nil_append, Option.map_some, Nat.reduceAdd, Nat.reduceSub, Nat.zero_add, if_true, if_false, ite_true, ite_false, Bool.false_eq_true, reduceCtorEq, decide_true, decide_false, not_true, not_false_iff, Bool.not_true, Bool.not_false, Bool.and_true, Bool.true_and, Bool.and_false, Bool.false_and, Bool.or_true, Bool.true_or, Bool.or_false, Bool.false_or, ρ1, s5, List.length_map, s6]) (by omega) (by rw [List.length_map]; omega) (by rw [List.length_map]; exact Nat.lt_of_le_of_lt (show ss.length ≤ 8 by omega) (by decide)) (by rw [List.length_map]; exact Nat.lt_of_le_of_lt (show ns.length ≤ 8 by omega) (by decide)) (by decide)
        (by rw [Int.toNat_natCast, List.getElem?_map, List.getElem?_eq_getElem hi]; rfl) (by simp only [e_run, e_seq, seq_nx, seq_rt, seq_none, e_skip, e_set, e_own, nxK_some, vK_some, oK_some, e_ret, rtK_some, e_if, ifK_some, e_fVar, e_bVar, va_val, vb_val, vb_own, vb_bor, at_0, at_S, set_0, set_S, e_K, e_f1, o1_some, e_f2, o2_some, e_and, and_t, and_f, and_b, e_or, or_b, e_tOf, to_b, e_tAnd, tand_b, e_tOr, tor_b, e_tNot, not_b, e_tYes, e_fIf, fif_b, e_nil, e_cons, cons_some, e_tup, tup_some, e_lst, lst_some, e_call, call_some, e_m1, e_m2, e_sSeq, seqs_l, seqs_t, seqs_s, e_for, for_some, e_asg, tg_some, e_gN, e_gT2, e_gT3, e_frz, frz_own, e_retOwn, ch_b, e_lc, co_some, lc_some, wipe_nil, wipe_cons, end_rt, end_nx, pt_none, pt_some, int_some, e_cut, cut_l, cut_t, e_app, e_sRng, pad_0, sl_f, sl_t, sl_nil, add_i, sub_i, lt_i, le_i, gt_i, ge_i, neg_i, not_d, len_l, len_t, ix_l, ix_t, max2_i, min2_i, tup_l, tup_t, lst_l, lst_t, rev_l, rev_t, bool_i, bool_b, int_b, isn_n, e_chain, e_par, e_m3, List.length_cons, List.length_nil, List.replicate, List.cons_append, List.nil_append, Option.map_some, Nat.reduceAdd, Nat.reduceSub, Nat.zero_add, if_true, if_false, ite_true, ite_false, Bool.false_eq_true, reduceCtorEq, decide_true, decide_false, not_true, not_false_iff, Bool.not_true, Bool.not_false, Bool.and_true, Bool.true_and, Bool.and_false, Bool.false_and, Bool.or_true, Bool.true_or, Bool.or_false, Bool.false_or, ρ1])
      refine ⟨_, _, rfl, ?_, ns.eraseIdx i, ss ++ [(ns[i], st)], .val (.int j), .val (.int x), .val (.int st), by simp [hj2], ?_, ?_, rfl⟩
      · simp only [e_run, e_seq, seq_nx, seq_rt, seq_none, e_skip, e_set, e_own, nxK_some, vK_some, oK_some, e_ret, rtK_some, e_if, ifK_some, e_fVar, e_bVar, va_val, vb_val, vb_own, vb_bor, at_0, at_S, set_0, set_S, e_K, e_f1, o1_some, e_f2, o2_some, e_and, and_t, and_f, and_b, e_or, or_b, e_tOf, to_b, e_tAnd, tand_b, e_tOr, tor_b, e_tNot, not_b, e_tYes, e_fIf, fif_b, e_nil, e_cons, cons_some, e_tup, tup_some, e_lst, lst_some, e_call, call_some, e_m1, e_m2, e_sSeq, seqs_l, seqs_t, seqs_s, e_for, for_some, e_asg, tg_some, e_gN, e_gT2, e_gT3, e_frz, frz_own, e_retOwn, ch_b, e_lc, co_some, lc_some, wipe_nil, wipe_cons, end_rt, end_nx, pt_none, pt_some, int_some, e_cut, cut_l, cut_t, e_app, e_sRng, pad_0, sl_f, sl_t, sl_nil, add_i, sub_i, lt_i, le_i, gt_i, ge_i, neg_i, not_d, len_l, len_t, ix_l, ix_t, max2_i, min2_i, tup_l, tup_t, lst_l, lst_t, rev_l, rev_t, bool_i, bool_b, int_b, isn_n, e_chain, e_par, e_m3, List.length_cons, List.length_nil, List.replicate, List.cons_append, List.nil_append, Option.map_some, Nat.reduceAdd, Nat.reduceSub, Nat.zero_add, if_true, if_false, ite_true, ite_false, Bool.false_eq_true, reduceCtorEq, decide_true, decide_false, not_true, not_false_iff, Bool.not_true, Bool.not_false, Bool.and_true, Bool.true_and, Bool.and_false, Bool.false_and, Bool.or_true, Bool.true_or, Bool.or_false, Bool.false_or, Mi.B_law_cord_1, nums, cast, qx, q1, r3, s1, s2, s3, b8, s4, q4]
        refine (show _ = gAppPop _ _ _ _ ρ1 from rfl).trans (pop.trans ?_)
        simp only [ρ1, set_0, set_S, Int.toNat_natCast, era, List.map_append, List.map_cons, List.map_nil, strD, nums]
      · refine List.Perm.trans ?_ hpm
        rw [List.map_append, List.append_assoc]
        exact List.Perm.append_left _ (erase_perm ns i hi)
      · intro s hs
        rcases List.mem_append.mp hs with h | h
        · exact hst s h
        · rw [List.mem_singleton.mp h]; exact hst2
  obtain ⟨ρ', hρ, ns, ss, a, b, c, hj, hpm, hst, rfl⟩ := loop
  have nd : (ss.map (·.1)).Nodup := (List.nodup_append.mp (hpm.nodup_iff.mpr (by decide))).1
  obtain ⟨c0, hc0, hss, hok⟩ := tied_ok (ss.map fun s => Cd.one s.1 s.2) ((dr.drop 10).take 16) (by intro h; simp at h; subst h; simp at hj; omega) (by simp; omega) (by intro h; have := congrArg List.length h; simp at this; omega) (fun n hn => hp n (List.mem_of_mem_drop (List.mem_of_mem_take hn))) (oks_ones ss) (src := .list (ss.map strD)) (by rw [ds_ones]; rfl)
  rw [sss_ones] at hss
  refine ⟨c0, ?_, hok, ⟨by intro h; rw [hss] at h; subst h; simp at hj; omega, by rw [hss]; omega, by rw [hss]; exact nd, fun s hs => ?_, fun s hs => hst s (hss ▸ hs)⟩⟩
  · have k1 : cutL (dr.map PyData.int) (some 10) (some 26) = ((dr.drop 10).take 16).map PyData.int := by
      rw [show (10 : Int) = ((10 : Nat) : Int) from rfl, show (26 : Int) = ((26 : Nat) : Int) from rfl, cut_mid _ _ _ (by decide) (by rw [List.length_map]; exact hl), List.map_take, List.map_drop]
    have sm := rng_some (j := (many : Int)) (by omega) (by omega)
    have hb : base8.map PyData.str = [.str "ax", .str "bo", .str "cy", .str "dot", .str "elk", .str "fig", .str "gnu", .str "hop"] := rfl
    rw [hb] at hρ
    have z0 : L2.atI (dr.map PyData.int) 0 = some (.int d0) := q0
    simp only [e_run, e_seq, seq_nx, seq_rt, seq_none, e_skip, e_set, e_own, nxK_some, vK_some, oK_some, e_ret, rtK_some, e_if, ifK_some, e_fVar, e_bVar, va_val, vb_val, vb_own, vb_bor, at_0, at_S, set_0, set_S, e_K, e_f1, o1_some, e_f2, o2_some, e_and, and_t, and_f, and_b, e_or, or_b, e_tOf, to_b, e_tAnd, tand_b, e_tOr, tor_b, e_tNot, not_b, e_tYes, e_fIf, fif_b, e_nil, e_cons, cons_some, e_tup, tup_some, e_lst, lst_some, e_call, call_some, e_m1, e_m2, e_sSeq, seqs_l, seqs_t, seqs_s, e_for, for_some, e_asg, tg_some, e_gN, e_gT2, e_gT3, e_frz, frz_own, e_retOwn, ch_b, e_lc, co_some, lc_some, wipe_nil, wipe_cons, end_rt, end_nx, pt_none, pt_some, int_some, e_cut, cut_l, cut_t, e_app, e_sRng, pad_0, sl_f, sl_t, sl_nil, add_i, sub_i, lt_i, le_i, gt_i, ge_i, neg_i, not_d, len_l, len_t, ix_l, ix_t, max2_i, min2_i, tup_l, tup_t, lst_l, lst_t, rev_l, rev_t, bool_i, bool_b, int_b, isn_n, e_chain, e_par, e_m3, List.length_cons, List.length_nil, List.replicate, List.cons_append, List.nil_append, Option.map_some, Nat.reduceAdd, Nat.reduceSub, Nat.zero_add, if_true, if_false, ite_true, ite_false, Bool.false_eq_true, reduceCtorEq, decide_true, decide_false, not_true, not_false_iff, Bool.not_true, Bool.not_false, Bool.and_true, Bool.true_and, Bool.and_false, Bool.false_and, Bool.or_true, Bool.true_or, Bool.or_false, Bool.false_or, Mi.m_law_cord, Mi.G_law_cord, nums, z0, r0, r1, r2, q2, min2_i, sm, Int.toNat_natCast]
    simp only [nums] at hρ hc0
    rw [hρ]
    simp only [e_run, e_seq, seq_nx, seq_rt, seq_none, e_skip, e_set, e_own, nxK_some, vK_some, oK_some, e_ret, rtK_some, e_if, ifK_some, e_fVar, e_bVar, va_val, vb_val, vb_own, vb_bor, at_0, at_S, set_0, set_S, e_K, e_f1, o1_some, e_f2, o2_some, e_and, and_t, and_f, and_b, e_or, or_b, e_tOf, to_b, e_tAnd, tand_b, e_tOr, tor_b, e_tNot, not_b, e_tYes, e_fIf, fif_b, e_nil, e_cons, cons_some, e_tup, tup_some, e_lst, lst_some, e_call, call_some, e_m1, e_m2, e_sSeq, seqs_l, seqs_t, seqs_s, e_for, for_some, e_asg, tg_some, e_gN, e_gT2, e_gT3, e_frz, frz_own, e_retOwn, ch_b, e_lc, co_some, lc_some, wipe_nil, wipe_cons, end_rt, end_nx, pt_none, pt_some, int_some, e_cut, cut_l, cut_t, e_app, e_sRng, pad_0, sl_f, sl_t, sl_nil, add_i, sub_i, lt_i, le_i, gt_i, ge_i, neg_i, not_d, len_l, len_t, ix_l, ix_t, max2_i, min2_i, tup_l, tup_t, lst_l, lst_t, rev_l, rev_t, bool_i, bool_b, int_b, isn_n, e_chain, e_par, e_m3, List.length_cons, List.length_nil, List.replicate, List.cons_append, List.nil_append, Option.map_some, Nat.reduceAdd, Nat.reduceSub, Nat.zero_add, if_true, if_false, ite_true, ite_false, Bool.false_eq_true, reduceCtorEq, decide_true, decide_false, not_true, not_false_iff, Bool.not_true, Bool.not_false, Bool.and_true, Bool.true_and, Bool.and_false, Bool.false_and, Bool.or_true, Bool.true_or, Bool.or_false, Bool.false_or, k1, hc0]
  · rw [hss] at hs
    exact hpm.subset (List.mem_append_left _ (List.mem_map.mpr ⟨s, hs, rfl⟩))
end Fact
set_option maxRecDepth 100000
/-! Which things are cords: the program's look and the law's. -/
namespace Fact
open PySem Pu
mutual
/-- things without dicts, with short texts -/
def Pl : D → Bool
  | .str x => decide (x.length ≤ 100)
  | .list ds => Pls ds
  | .tuple ds => Pls ds
  | .dict _ => false
  | .none => true
  | .bool _ => true
  | .int _ => true
def Pls : List D → Bool
  | [] => true
  | d :: ds => Pl d && Pls ds
end
mutual
def sz : D → Nat
  | .list ds => szs ds + 1
  | .tuple ds => szs ds + 1
  | .dict _ => 1
  | .str _ => 1
  | .none => 1
  | .bool _ => 1
  | .int _ => 1
def szs : List D → Nat
  | [] => 0
  | d :: ds => sz d + szs ds
end
theorem Pls_iff : ∀ {ds : List D}, Pls ds = true ↔ ∀ d ∈ ds, Pl d = true
  | [] => by simp [Pls]
  | d :: ds => by simp [Pls, Pls_iff (ds := ds)]
theorem szs_app : ∀ a b : List D, szs (a ++ b) = szs a + szs b
  | [], b => by simp [szs]
  | d :: a, b => by simp [szs, szs_app a b]; omega
theorem sz_pos (d : D) : 1 ≤ sz d := by cases d <;> simp [sz]
theorem len_szs : ∀ ds : List D, ds.length ≤ szs ds
  | [] => Nat.le_refl _
  | d :: ds => by have := len_szs ds; have := sz_pos d; simp [szs]; omega
mutual
theorem noDict_Pl : ∀ {d : D}, Pl d = true → noDict d = true
  | .str _, _ => rfl
  | .list ds, h => by simpa [noDict] using noDicts_Pls (ds := ds) (by simpa [Pl] using h)
  | .tuple ds, h => by simpa [noDict] using noDicts_Pls (ds := ds) (by simpa [Pl] using h)
  | .none, _ => rfl
  | .bool _, _ => rfl
  | .int _, _ => rfl
theorem noDicts_Pls : ∀ {ds : List D}, Pls ds = true → noDicts ds = true
  | [], _ => rfl
  | d :: ds, h => by
    obtain ⟨h1, h2⟩ := (by simpa [Pls] using h : Pl d = true ∧ Pls ds = true)
    simp [noDicts, noDict_Pl h1, noDicts_Pls h2]
end
theorem depth_mem : ∀ {ds : List D} {d : D}, d ∈ ds → d.depth ≤ PyData.depthAll ds
  | x :: ds, d, h => by
    rcases List.mem_cons.mp h with rfl | h
    · exact Nat.le_max_left _ _
    · exact Nat.le_trans (depth_mem h) (Nat.le_max_right _ _)

/-! names -/
def LB (c : Nat) : Bool := !(Builtin.Str.occurrences "abcdefghijklmnopqrstuvwxyz" ⟨#[c]⟩ 0 ("abcdefghijklmnopqrstuvwxyz" : Str).length 1).isEmpty
theorem in_let (c : Nat) : inD (.str ⟨#[c]⟩) (.str "abcdefghijklmnopqrstuvwxyz") = some (.bool (LB c)) := nr rfl
theorem notin_let (c : Nat) : notInD (.str ⟨#[c]⟩) (.str "abcdefghijklmnopqrstuvwxyz") = some (.bool (!LB c)) := nr rfl
def isNameB (x : Str) : Bool := decide (1 ≤ x.length) && decide (x.length ≤ 8) && x.cps.toList.all LB
def isNameD : D → Bool
  | .str x => isNameB x
  | _ => false
theorem boolsL_map : ∀ bs : List Bool, boolsL (bs.map PyData.bool) = some bs
  | [] => rfl
  | b :: bs => by simp [boolsL, boolsL_map bs]
theorem all_map {α : Type} (f : α → Bool) (xs : List α) : allD (.list (xs.map fun x => .bool (f x))) = some (.bool (xs.all f)) := by
  show (boolsL _).map _ = _
  rw [show (xs.map fun x => PyData.bool (f x)) = (xs.map f).map .bool by simp, boolsL_map]
  simp [List.all_map]
/-- a comprehension over things of a kind -/
theorem compL_of {α : Type} {tg : TgF} {e : F1} {ρ : Rho} {enc : α → D} {g : α → D} {xs : List α} (h : ∀ x ∈ xs, ∃ ρ1, tg (enc x) ρ = some ρ1 ∧ e ρ1 = some (g x)) : compL tg tYes e ρ (xs.map enc) = some (xs.map g) := by
  induction xs with
  | nil => rfl
  | cons x xs ih =>
    obtain ⟨ρ1, h1, h2⟩ := h x List.mem_cons_self
    have h3 := ih fun d m => h d (List.mem_cons_of_mem _ m)
    simp only [List.map_cons, compL, h1, tYes, Option.bind_some, if_true, h2, h3]
theorem compL_ofIf {α : Type} {tg : TgF} {t : FB} {e : F1} {ρ : Rho} {enc : α → D} {p : α → Bool} {g : α → D} {xs : List α} (h : ∀ x ∈ xs, ∃ ρ1, tg (enc x) ρ = some ρ1 ∧ t ρ1 = some (p x) ∧ (p x = true → e ρ1 = some (g x))) : compL tg t e ρ (xs.map enc) = some ((xs.filter p).map g) := by
  induction xs with
  | nil => rfl
  | cons x xs ih =>
    obtain ⟨ρ1, h1, h2, h4⟩ := h x List.mem_cons_self
    have h3 := ih fun d m => h d (List.mem_cons_of_mem _ m)
    simp only [List.map_cons, compL, h1, Option.bind_some, h2, h3]
    cases hp : p x with
    | true => simp [h4 hp, hp]
    | false => simp [hp]
theorem fitsL_small {n : Nat} (h : n ≤ 16777216) : fitsL n = true := by unfold fitsL; exact decide_eq_true (show n ≤ 2 ^ 24 from h)
theorem len_s {x : Str} (h : x.length ≤ 1000) : lenD (.str x) = some (.int x.length) := by
  show (if fitsL x.length = true then _ else _) = _
  rw [if_pos (fitsL_small (by omega))]
theorem is_int {d : D} (h : noDict d = true) : isInst .int d = some (.bool (isT .int d)) := by cases d <;> first | rfl | cases h
theorem is_bool {d : D} (h : noDict d = true) : isInst .bool d = some (.bool (isT .bool d)) := by cases d <;> first | rfl | cases h
theorem is_str {d : D} (h : noDict d = true) : isInst .str d = some (.bool (isT .str d)) := by cases d <;> first | rfl | cases h
theorem is_tup {d : D} (h : noDict d = true) : isInst .tuple d = some (.bool (isT .tuple d)) := by cases d <;> first | rfl | cases h
theorem is_lst {d : D} (h : noDict d = true) : isInst .list d = some (.bool (isT .list d)) := by cases d <;> first | rfl | cases h
theorem is_seq {d : D} (h : noDict d = true) : isInst .seq d = some (.bool (isT .seq d)) := by cases d <;> first | rfl | cases h
theorem cps_len (x : Str) : x.cps.toList.length = x.length := by simp [Str.length]
theorem is_name_ok {d : D} (h : Pl d = true) : Mi.m_is_name [d] = some (.bool (isNameD d)) := by
  have hn := noDict_Pl h
  cases d with
  | str x =>
    have hx : x.length ≤ 100 := by simpa [Pl] using h
    have hc : compL (gN 2) tYes (f2 inD (bVar 2) (bVar 1)) [.val (.str x), .val (.str "abcdefghijklmnopqrstuvwxyz"), .no] (x.cps.toList.map fun c => .str ⟨#[c]⟩) = some (x.cps.toList.map fun c => .bool (LB c)) :=
      compL_of fun c _ => ⟨_, rfl, by simp only [e_run, e_seq, seq_nx, seq_rt, seq_none, e_skip, e_set, e_own, nxK_some, vK_some, oK_some, e_ret, rtK_some, e_if, ifK_some, e_fVar, e_bVar, va_val, vb_val, vb_own, vb_bor, at_0, at_S, set_0, set_S, e_K, e_f1, o1_some, e_f2, o2_some, e_and, and_t, and_f, and_b, e_or, or_b, e_tOf, to_b, e_tAnd, tand_b, e_tOr, tor_b, e_tNot, not_b, e_tYes, e_fIf, fif_b, e_nil, e_cons, cons_some, e_tup, tup_some, e_lst, lst_some, e_call, call_some, e_m1, e_m2, e_sSeq, seqs_l, seqs_t, seqs_s, e_for, for_some, e_asg, tg_some, e_gN, e_gT2, e_gT3, e_frz, frz_own, e_retOwn, ch_b, e_lc, co_some, lc_some, wipe_nil, wipe_cons, end_rt, end_nx, pt_none, pt_some, int_some, e_cut, cut_l, cut_t, e_app, e_sRng, pad_0, sl_f, sl_t, sl_nil, add_i, sub_i, lt_i, le_i, gt_i, ge_i, neg_i, not_d, len_l, len_t, ix_l, ix_t, max2_i, min2_i, tup_l, tup_t, lst_l, lst_t, rev_l, rev_t, bool_i, bool_b, int_b, isn_n, e_chain, e_par, e_m3, List.length_cons, List.length_nil, List.replicate, List.cons_append, List.nil_append, Option.map_some, Nat.reduceAdd, Nat.reduceSub, Nat.zero_add, if_true, if_false, ite_true, ite_false, Bool.false_eq_true, reduceCtorEq, decide_true, decide_false, not_true, not_false_iff, Bool.not_true, Bool.not_false, Bool.and_true, Bool.true_and, Bool.and_false, Bool.false_and, Bool.or_true, Bool.true_or, Bool.or_false, Bool.false_or, in_let]⟩
    have hf : fitsL (x.cps.toList.map fun c => PyData.bool (LB c)).length = true := fitsL_small (by rw [List.length_map, cps_len]; omega)
    by_cases h1 : (1 : Int) ≤ x.length
    · have h1' : 1 ≤ x.length := by omega
      by_cases h8 : (x.length : Int) ≤ 8
      · have h8' : x.length ≤ 8 := by omega
        simp only [e_run, e_seq, seq_nx, seq_rt, seq_none, e_skip, e_set, e_own, nxK_some, vK_some, oK_some, e_ret, rtK_some, e_if, ifK_some, e_fVar, e_bVar, va_val, vb_val, vb_own, vb_bor, at_0, at_S, set_0, set_S, e_K, e_f1, o1_some, e_f2, o2_some, e_and, and_t, and_f, and_b, e_or, or_b, e_tOf, to_b, e_tAnd, tand_b, e_tOr, tor_b, e_tNot, not_b, e_tYes, e_fIf, fif_b, e_nil, e_cons, cons_some, e_tup, tup_some, e_lst, lst_some, e_call, call_some, e_m1, e_m2, e_sSeq, seqs_l, seqs_t, seqs_s, e_for, for_some, e_asg, tg_some, e_gN, e_gT2, e_gT3, e_frz, frz_own, e_retOwn, ch_b, e_lc, co_some, lc_some, wipe_nil, wipe_cons, end_rt, end_nx, pt_none, pt_some, int_some, e_cut, cut_l, cut_t, e_app, e_sRng, pad_0, sl_f, sl_t, sl_nil, add_i, sub_i, lt_i, le_i, gt_i, ge_i, neg_i, not_d, len_l, len_t, ix_l, ix_t, max2_i, min2_i, tup_l, tup_t, lst_l, lst_t, rev_l, rev_t, bool_i, bool_b, int_b, isn_n, e_chain, e_par, e_m3, List.length_cons, List.length_nil, List.replicate, List.cons_append, List.nil_append, Option.map_some, Nat.reduceAdd, Nat.reduceSub, Nat.zero_add, if_true, if_false, ite_true, ite_false, Bool.false_eq_true, reduceCtorEq, decide_true, decide_false, not_true, not_false_iff, Bool.not_true, Bool.not_false, Bool.and_true, Bool.true_and, Bool.and_false, Bool.false_and, Bool.or_true, Bool.true_or, Bool.or_false, Bool.false_or, Mi.m_is_name, Mi.G_is_name, is_str hn, isT, len_s (show x.length ≤ 1000 by omega), h1, h8, hc, hf, all_map, isNameD, isNameB, h1', h8']
      · have h8' : ¬ x.length ≤ 8 := by omega
        simp only [e_run, e_seq, seq_nx, seq_rt, seq_none, e_skip, e_set, e_own, nxK_some, vK_some, oK_some, e_ret, rtK_some, e_if, ifK_some, e_fVar, e_bVar, va_val, vb_val, vb_own, vb_bor, at_0, at_S, set_0, set_S, e_K, e_f1, o1_some, e_f2, o2_some, e_and, and_t, and_f, and_b, e_or, or_b, e_tOf, to_b, e_tAnd, tand_b, e_tOr, tor_b, e_tNot, not_b, e_tYes, e_fIf, fif_b, e_nil, e_cons, cons_some, e_tup, tup_some, e_lst, lst_some, e_call, call_some, e_m1, e_m2, e_sSeq, seqs_l, seqs_t, seqs_s, e_for, for_some, e_asg, tg_some, e_gN, e_gT2, e_gT3, e_frz, frz_own, e_retOwn, ch_b, e_lc, co_some, lc_some, wipe_nil, wipe_cons, end_rt, end_nx, pt_none, pt_some, int_some, e_cut, cut_l, cut_t, e_app, e_sRng, pad_0, sl_f, sl_t, sl_nil, add_i, sub_i, lt_i, le_i, gt_i, ge_i, neg_i, not_d, len_l, len_t, ix_l, ix_t, max2_i, min2_i, tup_l, tup_t, lst_l, lst_t, rev_l, rev_t, bool_i, bool_b, int_b, isn_n, e_chain, e_par, e_m3, List.length_cons, List.length_nil, List.replicate, List.cons_append, List.nil_append, Option.map_some, Nat.reduceAdd, Nat.reduceSub, Nat.zero_add, if_true, if_false, ite_true, ite_false, Bool.false_eq_true, reduceCtorEq, decide_true, decide_false, not_true, not_false_iff, Bool.not_true, Bool.not_false, Bool.and_true, Bool.true_and, Bool.and_false, Bool.false_and, Bool.or_true, Bool.true_or, Bool.or_false, Bool.false_or, Mi.m_is_name, Mi.G_is_name, is_str hn, isT, len_s (show x.length ≤ 1000 by omega), h1, h8, isNameD, isNameB, h1', h8']
    · have h1' : ¬ 1 ≤ x.length := by omega
      simp only [e_run, e_seq, seq_nx, seq_rt, seq_none, e_skip, e_set, e_own, nxK_some, vK_some, oK_some, e_ret, rtK_some, e_if, ifK_some, e_fVar, e_bVar, va_val, vb_val, vb_own, vb_bor, at_0, at_S, set_0, set_S, e_K, e_f1, o1_some, e_f2, o2_some, e_and, and_t, and_f, and_b, e_or, or_b, e_tOf, to_b, e_tAnd, tand_b, e_tOr, tor_b, e_tNot, not_b, e_tYes, e_fIf, fif_b, e_nil, e_cons, cons_some, e_tup, tup_some, e_lst, lst_some, e_call, call_some, e_m1, e_m2, e_sSeq, seqs_l, seqs_t, seqs_s, e_for, for_some, e_asg, tg_some, e_gN, e_gT2, e_gT3, e_frz, frz_own, e_retOwn, ch_b, e_lc, co_some, lc_some, wipe_nil, wipe_cons, end_rt, end_nx, pt_none, pt_some, int_some, e_cut, cut_l, cut_t, e_app, e_sRng, pad_0, sl_f, sl_t, sl_nil, add_i, sub_i, lt_i, le_i, gt_i, ge_i, neg_i, not_d, len_l, len_t, ix_l, ix_t, max2_i, min2_i, tup_l, tup_t, lst_l, lst_t, rev_l, rev_t, bool_i, bool_b, int_b, isn_n, e_chain, e_par, e_m3, List.length_cons, List.length_nil, List.replicate, List.cons_append, List.nil_append, Option.map_some, Nat.reduceAdd, Nat.reduceSub, Nat.zero_add, if_true, if_false, ite_true, ite_false, Bool.false_eq_true, reduceCtorEq, decide_true, decide_false, not_true, not_false_iff, Bool.not_true, Bool.not_false, Bool.and_true, Bool.true_and, Bool.and_false, Bool.false_and, Bool.or_true, Bool.true_or, Bool.or_false, Bool.false_or, Mi.m_is_name, Mi.G_is_name, is_str hn, isT, len_s (show x.length ≤ 1000 by omega), h1, isNameD, isNameB, h1']
  | dict _ => cases hn
  | _ => simp only [e_run, e_seq, seq_nx, seq_rt, seq_none, e_skip, e_set, e_own, nxK_some, vK_some, oK_some, e_ret, rtK_some, e_if, ifK_some, e_fVar, e_bVar, va_val, vb_val, vb_own, vb_bor, at_0, at_S, set_0, set_S, e_K, e_f1, o1_some, e_f2, o2_some, e_and, and_t, and_f, and_b, e_or, or_b, e_tOf, to_b, e_tAnd, tand_b, e_tOr, tor_b, e_tNot, not_b, e_tYes, e_fIf, fif_b, e_nil, e_cons, cons_some, e_tup, tup_some, e_lst, lst_some, e_call, call_some, e_m1, e_m2, e_sSeq, seqs_l, seqs_t, seqs_s, e_for, for_some, e_asg, tg_some, e_gN, e_gT2, e_gT3, e_frz, frz_own, e_retOwn, ch_b, e_lc, co_some, lc_some, wipe_nil, wipe_cons, end_rt, end_nx, pt_none, pt_some, int_some, e_cut, cut_l, cut_t, e_app, e_sRng, pad_0, sl_f, sl_t, sl_nil, add_i, sub_i, lt_i, le_i, gt_i, ge_i, neg_i, not_d, len_l, len_t, ix_l, ix_t, max2_i, min2_i, tup_l, tup_t, lst_l, lst_t, rev_l, rev_t, bool_i, bool_b, int_b, isn_n, e_chain, e_par, e_m3, List.length_cons, List.length_nil, List.replicate, List.cons_append, List.nil_append, Option.map_some, Nat.reduceAdd, Nat.reduceSub, Nat.zero_add, if_true, if_false, ite_true, ite_false, Bool.false_eq_true, reduceCtorEq, decide_true, decide_false, not_true, not_false_iff, Bool.not_true, Bool.not_false, Bool.and_true, Bool.true_and, Bool.and_false, Bool.false_and, Bool.or_true, Bool.true_or, Bool.or_false, Bool.false_or, Mi.m_is_name, Mi.G_is_name, is_str hn, isT, isNameD]
/-- a whole number of so much to so much -/
def isNumB (lo hi : Int) : D → Bool
  | .int i => decide (lo ≤ i) && decide (i ≤ hi)
  | _ => false
theorem is_number_ok {d : D} (h : noDict d = true) (lo hi : Int) : Mi.m_is_number [d, .int lo, .int hi] = some (.bool (isNumB lo hi d)) := by
  cases d with
  | int i =>
    by_cases h1 : lo ≤ i
    · simp only [e_run, e_seq, seq_nx, seq_rt, seq_none, e_skip, e_set, e_own, nxK_some, vK_some, oK_some, e_ret, rtK_some, e_if, ifK_some, e_fVar, e_bVar, va_val, vb_val, vb_own, vb_bor, at_0, at_S, set_0, set_S, e_K, e_f1, o1_some, e_f2, o2_some, e_and, and_t, and_f, and_b, e_or, or_b, e_tOf, to_b, e_tAnd, tand_b, e_tOr, tor_b, e_tNot, not_b, e_tYes, e_fIf, fif_b, e_nil, e_cons, cons_some, e_tup, tup_some, e_lst, lst_some, e_call, call_some, e_m1, e_m2, e_sSeq, seqs_l, seqs_t, seqs_s, e_for, for_some, e_asg, tg_some, e_gN, e_gT2, e_gT3, e_frz, frz_own, e_retOwn, ch_b, e_lc, co_some, lc_some, wipe_nil, wipe_cons, end_rt, end_nx, pt_none, pt_some, int_some, e_cut, cut_l, cut_t, e_app, e_sRng, pad_0, sl_f, sl_t, sl_nil, add_i, sub_i, lt_i, le_i, gt_i, ge_i, neg_i, not_d, len_l, len_t, ix_l, ix_t, max2_i, min2_i, tup_l, tup_t, lst_l, lst_t, rev_l, rev_t, bool_i, bool_b, int_b, isn_n, e_chain, e_par, e_m3, List.length_cons, List.length_nil, List.replicate, List.cons_append, List.nil_append, Option.map_some, Nat.reduceAdd, Nat.reduceSub, Nat.zero_add, if_true, if_false, ite_true, ite_false, Bool.false_eq_true, reduceCtorEq, decide_true, decide_false, not_true, not_false_iff, Bool.not_true, Bool.not_false, Bool.and_true, Bool.true_and, Bool.and_false, Bool.false_and, Bool.or_true, Bool.true_or, Bool.or_false, Bool.false_or, Mi.m_is_number, Mi.G_is_number, is_int h, is_bool h, isT, isNumB, h1]
    · simp only [e_run, e_seq, seq_nx, seq_rt, seq_none, e_skip, e_set, e_own, nxK_some, vK_some, oK_some, e_ret, rtK_some, e_if, ifK_some, e_fVar, e_bVar, va_val, vb_val, vb_own, vb_bor, at_0, at_S, set_0, set_S, e_K, e_f1, o1_some, e_f2, o2_some, e_and, and_t, and_f, and_b, e_or, or_b, e_tOf, to_b, e_tAnd, tand_b, e_tOr, tor_b, e_tNot, not_b, e_tYes, e_fIf, fif_b, e_nil, e_cons, cons_some, e_tup, tup_some, e_lst, lst_some, e_call, call_some, e_m1, e_m2, e_sSeq, seqs_l, seqs_t, seqs_s, e_for, for_some, e_asg, tg_some, e_gN, e_gT2, e_gT3, e_frz, frz_own, e_retOwn, ch_b, e_lc, co_some, lc_some, wipe_nil, wipe_cons, end_rt, end_nx, pt_none, pt_some, int_some, e_cut, cut_l, cut_t, e_app, e_sRng, pad_0, sl_f, sl_t, sl_nil, add_i, sub_i, lt_i, le_i, gt_i, ge_i, neg_i, not_d, len_l, len_t, ix_l, ix_t, max2_i, min2_i, tup_l, tup_t, lst_l, lst_t, rev_l, rev_t, bool_i, bool_b, int_b, isn_n, e_chain, e_par, e_m3, List.length_cons, List.length_nil, List.replicate, List.cons_append, List.nil_append, Option.map_some, Nat.reduceAdd, Nat.reduceSub, Nat.zero_add, if_true, if_false, ite_true, ite_false, Bool.false_eq_true, reduceCtorEq, decide_true, decide_false, not_true, not_false_iff, Bool.not_true, Bool.not_false, Bool.and_true, Bool.true_and, Bool.and_false, Bool.false_and, Bool.or_true, Bool.true_or, Bool.or_false, Bool.false_or, Mi.m_is_number, Mi.G_is_number, is_int h, is_bool h, isT, isNumB, h1]
  | dict _ => cases h
  | _ => simp only [e_run, e_seq, seq_nx, seq_rt, seq_none, e_skip, e_set, e_own, nxK_some, vK_some, oK_some, e_ret, rtK_some, e_if, ifK_some, e_fVar, e_bVar, va_val, vb_val, vb_own, vb_bor, at_0, at_S, set_0, set_S, e_K, e_f1, o1_some, e_f2, o2_some, e_and, and_t, and_f, and_b, e_or, or_b, e_tOf, to_b, e_tAnd, tand_b, e_tOr, tor_b, e_tNot, not_b, e_tYes, e_fIf, fif_b, e_nil, e_cons, cons_some, e_tup, tup_some, e_lst, lst_some, e_call, call_some, e_m1, e_m2, e_sSeq, seqs_l, seqs_t, seqs_s, e_for, for_some, e_asg, tg_some, e_gN, e_gT2, e_gT3, e_frz, frz_own, e_retOwn, ch_b, e_lc, co_some, lc_some, wipe_nil, wipe_cons, end_rt, end_nx, pt_none, pt_some, int_some, e_cut, cut_l, cut_t, e_app, e_sRng, pad_0, sl_f, sl_t, sl_nil, add_i, sub_i, lt_i, le_i, gt_i, ge_i, neg_i, not_d, len_l, len_t, ix_l, ix_t, max2_i, min2_i, tup_l, tup_t, lst_l, lst_t, rev_l, rev_t, bool_i, bool_b, int_b, isn_n, e_chain, e_par, e_m3, List.length_cons, List.length_nil, List.replicate, List.cons_append, List.nil_append, Option.map_some, Nat.reduceAdd, Nat.reduceSub, Nat.zero_add, if_true, if_false, ite_true, ite_false, Bool.false_eq_true, reduceCtorEq, decide_true, decide_false, not_true, not_false_iff, Bool.not_true, Bool.not_false, Bool.and_true, Bool.true_and, Bool.and_false, Bool.false_and, Bool.or_true, Bool.true_or, Bool.or_false, Bool.false_or, Mi.m_is_number, Mi.G_is_number, is_int h, is_bool h, isT, isNumB]
theorem law_number_ok {d : D} (h : noDict d = true) (lo hi : Int) : Mi.m_law_number [d, .int lo, .int hi] = some (.bool (isNumB lo hi d)) := is_number_ok h lo hi
def isStrandB : D → Bool
  | .tuple [x, y] => isNameD x && isNumB 1 99 y
  | _ => false
theorem isStrandB_len {ds : List D} (h : ds.length ≠ 2) : isStrandB (.tuple ds) = false := by
  match ds, h with
  | [], _ => rfl
  | [_], _ => rfl
  | [_, _], h => exact absurd rfl h
  | _ :: _ :: _ :: _, _ => rfl
theorem eq_i {a b : Int} : eqD (.int a) (.int b) = some (.bool (a == b)) := by unfold eqD; rw [eqB_int]; rfl
theorem ne_i {a b : Int} : neD (.int a) (.int b) = some (.bool (!(a == b))) := by unfold neD; rw [eqB_int]; rfl
theorem is_strand_ok {d : D} (h : Pl d = true) : Mi.m_is_strand [d] = some (.bool (isStrandB d)) := by
  have hn := noDict_Pl h
  cases d with
  | tuple ds =>
    by_cases h2 : ds.length = 2
    · match ds, h2 with
      | [x, y], _ =>
        obtain ⟨px, py⟩ := (by simpa [Pl, Pls] using h : Pl x = true ∧ Pl y = true)
        have e0 : L2.atI [x, y] 0 = some x := rfl
        have e1 : L2.atI [x, y] 1 = some y := rfl
        have e2 : (((0 + 1 + 1 : Nat) : Int) == 2) = true := rfl
        simp only [e_run, e_seq, seq_nx, seq_rt, seq_none, e_skip, e_set, e_own, nxK_some, vK_some, oK_some, e_ret, rtK_some, e_if, ifK_some, e_fVar, e_bVar, va_val, vb_val, vb_own, vb_bor, at_0, at_S, set_0, set_S, e_K, e_f1, o1_some, e_f2, o2_some, e_and, and_t, and_f, and_b, e_or, or_b, e_tOf, to_b, e_tAnd, tand_b, e_tOr, tor_b, e_tNot, not_b, e_tYes, e_fIf, fif_b, e_nil, e_cons, cons_some, e_tup, tup_some, e_lst, lst_some, e_call, call_some, e_m1, e_m2, e_sSeq, seqs_l, seqs_t, seqs_s, e_for, for_some, e_asg, tg_some, e_gN, e_gT2, e_gT3, e_frz, frz_own, e_retOwn, ch_b, e_lc, co_some, lc_some, wipe_nil, wipe_cons, end_rt, end_nx, pt_none, pt_some, int_some, e_cut, cut_l, cut_t, e_app, e_sRng, pad_0, sl_f, sl_t, sl_nil, add_i, sub_i, lt_i, le_i, gt_i, ge_i, neg_i, not_d, len_l, len_t, ix_l, ix_t, max2_i, min2_i, tup_l, tup_t, lst_l, lst_t, rev_l, rev_t, bool_i, bool_b, int_b, isn_n, e_chain, e_par, e_m3, List.length_cons, List.length_nil, List.replicate, List.cons_append, List.nil_append, Option.map_some, Nat.reduceAdd, Nat.reduceSub, Nat.zero_add, if_true, if_false, ite_true, ite_false, Bool.false_eq_true, reduceCtorEq, decide_true, decide_false, not_true, not_false_iff, Bool.not_true, Bool.not_false, Bool.and_true, Bool.true_and, Bool.and_false, Bool.false_and, Bool.or_true, Bool.true_or, Bool.or_false, Bool.false_or, Mi.m_is_strand, Mi.G_is_strand, is_tup hn, isT, eq_i, e0, e1, is_name_ok px, is_number_ok (noDict_Pl py)]
        cases e : isNameD x
        · simp [isStrandB, e]; rfl
        · simp [isStrandB, e]; rfl
    · have e2 : ((ds.length : Int) == 2) = false := by simpa using (show (ds.length : Int) ≠ 2 by omega)
      simp only [e_run, e_seq, seq_nx, seq_rt, seq_none, e_skip, e_set, e_own, nxK_some, vK_some, oK_some, e_ret, rtK_some, e_if, ifK_some, e_fVar, e_bVar, va_val, vb_val, vb_own, vb_bor, at_0, at_S, set_0, set_S, e_K, e_f1, o1_some, e_f2, o2_some, e_and, and_t, and_f, and_b, e_or, or_b, e_tOf, to_b, e_tAnd, tand_b, e_tOr, tor_b, e_tNot, not_b, e_tYes, e_fIf, fif_b, e_nil, e_cons, cons_some, e_tup, tup_some, e_lst, lst_some, e_call, call_some, e_m1, e_m2, e_sSeq, seqs_l, seqs_t, seqs_s, e_for, for_some, e_asg, tg_some, e_gN, e_gT2, e_gT3, e_frz, frz_own, e_retOwn, ch_b, e_lc, co_some, lc_some, wipe_nil, wipe_cons, end_rt, end_nx, pt_none, pt_some, int_some, e_cut, cut_l, cut_t, e_app, e_sRng, pad_0, sl_f, sl_t, sl_nil, add_i, sub_i, lt_i, le_i, gt_i, ge_i, neg_i, not_d, len_l, len_t, ix_l, ix_t, max2_i, min2_i, tup_l, tup_t, lst_l, lst_t, rev_l, rev_t, bool_i, bool_b, int_b, isn_n, e_chain, e_par, e_m3, List.length_cons, List.length_nil, List.replicate, List.cons_append, List.nil_append, Option.map_some, Nat.reduceAdd, Nat.reduceSub, Nat.zero_add, if_true, if_false, ite_true, ite_false, Bool.false_eq_true, reduceCtorEq, decide_true, decide_false, not_true, not_false_iff, Bool.not_true, Bool.not_false, Bool.and_true, Bool.true_and, Bool.and_false, Bool.false_and, Bool.or_true, Bool.true_or, Bool.or_false, Bool.false_or, Mi.m_is_strand, Mi.G_is_strand, is_tup hn, isT, eq_i, e2, isStrandB_len h2]
  | dict _ => cases hn
  | _ => simp only [e_run, e_seq, seq_nx, seq_rt, seq_none, e_skip, e_set, e_own, nxK_some, vK_some, oK_some, e_ret, rtK_some, e_if, ifK_some, e_fVar, e_bVar, va_val, vb_val, vb_own, vb_bor, at_0, at_S, set_0, set_S, e_K, e_f1, o1_some, e_f2, o2_some, e_and, and_t, and_f, and_b, e_or, or_b, e_tOf, to_b, e_tAnd, tand_b, e_tOr, tor_b, e_tNot, not_b, e_tYes, e_fIf, fif_b, e_nil, e_cons, cons_some, e_tup, tup_some, e_lst, lst_some, e_call, call_some, e_m1, e_m2, e_sSeq, seqs_l, seqs_t, seqs_s, e_for, for_some, e_asg, tg_some, e_gN, e_gT2, e_gT3, e_frz, frz_own, e_retOwn, ch_b, e_lc, co_some, lc_some, wipe_nil, wipe_cons, end_rt, end_nx, pt_none, pt_some, int_some, e_cut, cut_l, cut_t, e_app, e_sRng, pad_0, sl_f, sl_t, sl_nil, add_i, sub_i, lt_i, le_i, gt_i, ge_i, neg_i, not_d, len_l, len_t, ix_l, ix_t, max2_i, min2_i, tup_l, tup_t, lst_l, lst_t, rev_l, rev_t, bool_i, bool_b, int_b, isn_n, e_chain, e_par, e_m3, List.length_cons, List.length_nil, List.replicate, List.cons_append, List.nil_append, Option.map_some, Nat.reduceAdd, Nat.reduceSub, Nat.zero_add, if_true, if_false, ite_true, ite_false, Bool.false_eq_true, reduceCtorEq, decide_true, decide_false, not_true, not_false_iff, Bool.not_true, Bool.not_false, Bool.and_true, Bool.true_and, Bool.and_false, Bool.false_and, Bool.or_true, Bool.true_or, Bool.or_false, Bool.false_or, Mi.m_is_strand, Mi.G_is_strand, is_tup hn, isT, isStrandB]
theorem eqv_nil (xs : List D) : neD (.list xs) (.list []) = if noDicts xs then some (.bool (!xs.isEmpty)) else none := by
  unfold neD eqB eqOk
  simp only [noDict, noDicts, Bool.and_true]
  have : min (PyData.depth (.list xs)) (PyData.depth (.list [])) ≤ 64 := by simp [PyData.depth, PyData.depthAll]
  simp only [this, decide_true, Bool.and_true]
  cases noDicts xs with
  | false => rfl
  | true => cases xs <;> rfl
theorem law_is_strand_ok {d : D} (h : Pl d = true) : Mi.m_law_is_strand [d] = some (.bool (isStrandB d)) := by
  have hn := noDict_Pl h
  cases d with
  | tuple ds =>
    by_cases h2 : ds.length = 2
    · match ds, h2 with
      | [x, y], _ =>
        obtain ⟨px, py⟩ := (by simpa [Pl, Pls] using h : Pl x = true ∧ Pl y = true)
        have e0 : L2.atI [x, y] 0 = some x := rfl
        have e1 : L2.atI [x, y] 1 = some y := rfl
        cases x with
        | str s =>
          have hx : s.length ≤ 100 := by simpa [Pl] using px
          have hc : compL (gN 1) (tOf (f2 notInD (bVar 1) (fK (.str "abcdefghijklmnopqrstuvwxyz")))) (fVar 1) [.val (.tuple [.str s, y]), .no] (s.cps.toList.map fun c => .str ⟨#[c]⟩) = some ((s.cps.toList.filter fun c => !LB c).map fun c => .str ⟨#[c]⟩) :=
            compL_ofIf fun c _ => ⟨_, rfl, by simp only [e_run, e_seq, seq_nx, seq_rt, seq_none, e_skip, e_set, e_own, nxK_some, vK_some, oK_some, e_ret, rtK_some, e_if, ifK_some, e_fVar, e_bVar, va_val, vb_val, vb_own, vb_bor, at_0, at_S, set_0, set_S, e_K, e_f1, o1_some, e_f2, o2_some, e_and, and_t, and_f, and_b, e_or, or_b, e_tOf, to_b, e_tAnd, tand_b, e_tOr, tor_b, e_tNot, not_b, e_tYes, e_fIf, fif_b, e_nil, e_cons, cons_some, e_tup, tup_some, e_lst, lst_some, e_call, call_some, e_m1, e_m2, e_sSeq, seqs_l, seqs_t, seqs_s, e_for, for_some, e_asg, tg_some, e_gN, e_gT2, e_gT3, e_frz, frz_own, e_retOwn, ch_b, e_lc, co_some, lc_some, wipe_nil, wipe_cons, end_rt, end_nx, pt_none, pt_some, int_some, e_cut, cut_l, cut_t, e_app, e_sRng, pad_0, sl_f, sl_t, sl_nil, add_i, sub_i, lt_i, le_i, gt_i, ge_i, neg_i, not_d, len_l, len_t, ix_l, ix_t, max2_i, min2_i, tup_l, tup_t, lst_l, lst_t, rev_l, rev_t, bool_i, bool_b, int_b, isn_n, e_chain, e_par, e_m3, List.length_cons, List.length_nil, List.replicate, List.cons_append, List.nil_append, Option.map_some, Nat.reduceAdd, Nat.reduceSub, Nat.zero_add, if_true, if_false, ite_true, ite_false, Bool.false_eq_true, reduceCtorEq, decide_true, decide_false, not_true, not_false_iff, Bool.not_true, Bool.not_false, Bool.and_true, Bool.true_and, Bool.and_false, Bool.false_and, Bool.or_true, Bool.true_or, Bool.or_false, Bool.false_or, notin_let], fun _ => by simp only [e_run, e_seq, seq_nx, seq_rt, seq_none, e_skip, e_set, e_own, nxK_some, vK_some, oK_some, e_ret, rtK_some, e_if, ifK_some, e_fVar, e_bVar, va_val, vb_val, vb_own, vb_bor, at_0, at_S, set_0, set_S, e_K, e_f1, o1_some, e_f2, o2_some, e_and, and_t, and_f, and_b, e_or, or_b, e_tOf, to_b, e_tAnd, tand_b, e_tOr, tor_b, e_tNot, not_b, e_tYes, e_fIf, fif_b, e_nil, e_cons, cons_some, e_tup, tup_some, e_lst, lst_some, e_call, call_some, e_m1, e_m2, e_sSeq, seqs_l, seqs_t, seqs_s, e_for, for_some, e_asg, tg_some, e_gN, e_gT2, e_gT3, e_frz, frz_own, e_retOwn, ch_b, e_lc, co_some, lc_some, wipe_nil, wipe_cons, end_rt, end_nx, pt_none, pt_some, int_some, e_cut, cut_l, cut_t, e_app, e_sRng, pad_0, sl_f, sl_t, sl_nil, add_i, sub_i, lt_i, le_i, gt_i, ge_i, neg_i, not_d, len_l, len_t, ix_l, ix_t, max2_i, min2_i, tup_l, tup_t, lst_l, lst_t, rev_l, rev_t, bool_i, bool_b, int_b, isn_n, e_chain, e_par, e_m3, List.length_cons, List.length_nil, List.replicate, List.cons_append, List.nil_append, Option.map_some, Nat.reduceAdd, Nat.reduceSub, Nat.zero_add, if_true, if_false, ite_true, ite_false, Bool.false_eq_true, reduceCtorEq, decide_true, decide_false, not_true, not_false_iff, Bool.not_true, Bool.not_false, Bool.and_true, Bool.true_and, Bool.and_false, Bool.false_and, Bool.or_true, Bool.true_or, Bool.or_false, Bool.false_or]⟩
          have hf : fitsL ((s.cps.toList.filter fun c => !LB c).map fun c => PyData.str ⟨#[c]⟩).length = true := fitsL_small (by
            rw [List.length_map]; exact Nat.le_trans (List.length_filter_le _ _) (by rw [cps_len]; omega))
          have hnd : noDicts ((s.cps.toList.filter fun c => !LB c).map fun c => PyData.str ⟨#[c]⟩) = true := by
            generalize (s.cps.toList.filter fun c => !LB c) = l
            induction l with
            | nil => rfl
            | cons a l ih => simpa [noDicts, noDict] using ih
          have hem : ((s.cps.toList.filter fun c => !LB c).map fun c => PyData.str ⟨#[c]⟩).isEmpty = s.cps.toList.all LB := by
            generalize s.cps.toList = l
            induction l with
            | nil => rfl
            | cons a l ih => cases e : LB a <;> simp_all
          by_cases h1 : (1 : Int) ≤ s.length
          · have h1' : 1 ≤ s.length := by omega
            by_cases h8 : (s.length : Int) ≤ 8
            · have h8' : s.length ≤ 8 := by omega
              simp only [e_run, e_seq, seq_nx, seq_rt, seq_none, e_skip, e_set, e_own, nxK_some, vK_some, oK_some, e_ret, rtK_some, e_if, ifK_some, e_fVar, e_bVar, va_val, vb_val, vb_own, vb_bor, at_0, at_S, set_0, set_S, e_K, e_f1, o1_some, e_f2, o2_some, e_and, and_t, and_f, and_b, e_or, or_b, e_tOf, to_b, e_tAnd, tand_b, e_tOr, tor_b, e_tNot, not_b, e_tYes, e_fIf, fif_b, e_nil, e_cons, cons_some, e_tup, tup_some, e_lst, lst_some, e_call, call_some, e_m1, e_m2, e_sSeq, seqs_l, seqs_t, seqs_s, e_for, for_some, e_asg, tg_some, e_gN, e_gT2, e_gT3, e_frz, frz_own, e_retOwn, ch_b, e_lc, co_some, lc_some, wipe_nil, wipe_cons, end_rt, end_nx, pt_none, pt_some, int_some, e_cut, cut_l, cut_t, e_app, e_sRng, pad_0, sl_f, sl_t, sl_nil, add_i, sub_i, lt_i, le_i, gt_i, ge_i, neg_i, not_d, len_l, len_t, ix_l, ix_t, max2_i, min2_i, tup_l, tup_t, lst_l, lst_t, rev_l, rev_t, bool_i, bool_b, int_b, isn_n, e_chain, e_par, e_m3, List.length_cons, List.length_nil, List.replicate, List.cons_append, List.nil_append, Option.map_some, Nat.reduceAdd, Nat.reduceSub, Nat.zero_add, if_true, if_false, ite_true, ite_false, Bool.false_eq_true, reduceCtorEq, decide_true, decide_false, not_true, not_false_iff, Bool.not_true, Bool.not_false, Bool.and_true, Bool.true_and, Bool.and_false, Bool.false_and, Bool.or_true, Bool.true_or, Bool.or_false, Bool.false_or, Mi.m_law_is_strand, Mi.G_law_is_strand, is_tup hn, isT, ne_i, e0, e1, is_str (noDict_Pl px), len_s (show s.length ≤ 1000 by omega), h1, h8, hc, hf, eqv_nil, hnd, hem, law_number_ok (noDict_Pl py), show (((0 + 1 + 1 : Nat) : Int) == 2) = true from rfl]
              cases e : s.cps.toList.all LB <;> simp [isStrandB, isNameD, isNameB, h1', h8', e, end_rt, seq_rt, seq_nx, e_ret, rtK]
              simp only [e_run, e_seq, seq_nx, seq_rt, seq_none, e_skip, e_set, e_own, nxK_some, vK_some, oK_some, e_ret, rtK_some, e_if, ifK_some, e_fVar, e_bVar, va_val, vb_val, vb_own, vb_bor, at_0, at_S, set_0, set_S, e_K, e_f1, o1_some, e_f2, o2_some, e_and, and_t, and_f, and_b, e_or, or_b, e_tOf, to_b, e_tAnd, tand_b, e_tOr, tor_b, e_tNot, not_b, e_tYes, e_fIf, fif_b, e_nil, e_cons, cons_some, e_tup, tup_some, e_lst, lst_some, e_call, call_some, e_m1, e_m2, e_sSeq, seqs_l, seqs_t, seqs_s, e_for, for_some, e_asg, tg_some, e_gN, e_gT2, e_gT3, e_frz, frz_own, e_retOwn, ch_b, e_lc, co_some, lc_some, wipe_nil, wipe_cons, end_rt, end_nx, pt_none, pt_some, int_some, e_cut, cut_l, cut_t, e_app, e_sRng, pad_0, sl_f, sl_t, sl_nil, add_i, sub_i, lt_i, le_i, gt_i, ge_i, neg_i, not_d, len_l, len_t, ix_l, ix_t, max2_i, min2_i, tup_l, tup_t, lst_l, lst_t, rev_l, rev_t, bool_i, bool_b, int_b, isn_n, e_chain, e_par, e_m3, List.length_cons, List.length_nil, List.replicate, List.cons_append, List.nil_append, Option.map_some, Nat.reduceAdd, Nat.reduceSub, Nat.zero_add, if_true, if_false, ite_true, ite_false, Bool.false_eq_true, reduceCtorEq, decide_true, decide_false, not_true, not_false_iff, Bool.not_true, Bool.not_false, Bool.and_true, Bool.true_and, Bool.and_false, Bool.false_and, Bool.or_true, Bool.true_or, Bool.or_false, Bool.false_or, law_number_ok (noDict_Pl py), e0, e1]
            · have h8' : ¬ s.length ≤ 8 := by omega
              simp only [e_run, e_seq, seq_nx, seq_rt, seq_none, e_skip, e_set, e_own, nxK_some, vK_some, oK_some, e_ret, rtK_some, e_if, ifK_some, e_fVar, e_bVar, va_val, vb_val, vb_own, vb_bor, at_0, at_S, set_0, set_S, e_K, e_f1, o1_some, e_f2, o2_some, e_and, and_t, and_f, and_b, e_or, or_b, e_tOf, to_b, e_tAnd, tand_b, e_tOr, tor_b, e_tNot, not_b, e_tYes, e_fIf, fif_b, e_nil, e_cons, cons_some, e_tup, tup_some, e_lst, lst_some, e_call, call_some, e_m1, e_m2, e_sSeq, seqs_l, seqs_t, seqs_s, e_for, for_some, e_asg, tg_some, e_gN, e_gT2, e_gT3, e_frz, frz_own, e_retOwn, ch_b, e_lc, co_some, lc_some, wipe_nil, wipe_cons, end_rt, end_nx, pt_none, pt_some, int_some, e_cut, cut_l, cut_t, e_app, e_sRng, pad_0, sl_f, sl_t, sl_nil, add_i, sub_i, lt_i, le_i, gt_i, ge_i, neg_i, not_d, len_l, len_t, ix_l, ix_t, max2_i, min2_i, tup_l, tup_t, lst_l, lst_t, rev_l, rev_t, bool_i, bool_b, int_b, isn_n, e_chain, e_par, e_m3, List.length_cons, List.length_nil, List.replicate, List.cons_append, List.nil_append, Option.map_some, Nat.reduceAdd, Nat.reduceSub, Nat.zero_add, if_true, if_false, ite_true, ite_false, Bool.false_eq_true, reduceCtorEq, decide_true, decide_false, not_true, not_false_iff, Bool.not_true, Bool.not_false, Bool.and_true, Bool.true_and, Bool.and_false, Bool.false_and, Bool.or_true, Bool.true_or, Bool.or_false, Bool.false_or, Mi.m_law_is_strand, Mi.G_law_is_strand, is_tup hn, isT, ne_i, e0, e1, is_str (noDict_Pl px), len_s (show s.length ≤ 1000 by omega), h1, h8, isStrandB, isNameD, isNameB, h1', h8', show (((0 + 1 + 1 : Nat) : Int) == 2) = true from rfl]
          · have h1' : ¬ 1 ≤ s.length := by omega
            simp only [e_run, e_seq, seq_nx, seq_rt, seq_none, e_skip, e_set, e_own, nxK_some, vK_some, oK_some, e_ret, rtK_some, e_if, ifK_some, e_fVar, e_bVar, va_val, vb_val, vb_own, vb_bor, at_0, at_S, set_0, set_S, e_K, e_f1, o1_some, e_f2, o2_some, e_and, and_t, and_f, and_b, e_or, or_b, e_tOf, to_b, e_tAnd, tand_b, e_tOr, tor_b, e_tNot, not_b, e_tYes, e_fIf, fif_b, e_nil, e_cons, cons_some, e_tup, tup_some, e_lst, lst_some, e_call, call_some, e_m1, e_m2, e_sSeq, seqs_l, seqs_t, seqs_s, e_for, for_some, e_asg, tg_some, e_gN, e_gT2, e_gT3, e_frz, frz_own, e_retOwn, ch_b, e_lc, co_some, lc_some, wipe_nil, wipe_cons, end_rt, end_nx, pt_none, pt_some, int_some, e_cut, cut_l, cut_t, e_app, e_sRng, pad_0, sl_f, sl_t, sl_nil, add_i, sub_i, lt_i, le_i, gt_i, ge_i, neg_i, not_d, len_l, len_t, ix_l, ix_t, max2_i, min2_i, tup_l, tup_t, lst_l, lst_t, rev_l, rev_t, bool_i, bool_b, int_b, isn_n, e_chain, e_par, e_m3, List.length_cons, List.length_nil, List.replicate, List.cons_append, List.nil_append, Option.map_some, Nat.reduceAdd, Nat.reduceSub, Nat.zero_add, if_true, if_false, ite_true, ite_false, Bool.false_eq_true, reduceCtorEq, decide_true, decide_false, not_true, not_false_iff, Bool.not_true, Bool.not_false, Bool.and_true, Bool.true_and, Bool.and_false, Bool.false_and, Bool.or_true, Bool.true_or, Bool.or_false, Bool.false_or, Mi.m_law_is_strand, Mi.G_law_is_strand, is_tup hn, isT, ne_i, e0, e1, is_str (noDict_Pl px), len_s (show s.length ≤ 1000 by omega), h1, isStrandB, isNameD, isNameB, h1', show (((0 + 1 + 1 : Nat) : Int) == 2) = true from rfl]
        | dict _ => cases px
        | _ => simp only [e_run, e_seq, seq_nx, seq_rt, seq_none, e_skip, e_set, e_own, nxK_some, vK_some, oK_some, e_ret, rtK_some, e_if, ifK_some, e_fVar, e_bVar, va_val, vb_val, vb_own, vb_bor, at_0, at_S, set_0, set_S, e_K, e_f1, o1_some, e_f2, o2_some, e_and, and_t, and_f, and_b, e_or, or_b, e_tOf, to_b, e_tAnd, tand_b, e_tOr, tor_b, e_tNot, not_b, e_tYes, e_fIf, fif_b, e_nil, e_cons, cons_some, e_tup, tup_some, e_lst, lst_some, e_call, call_some, e_m1, e_m2, e_sSeq, seqs_l, seqs_t, seqs_s, e_for, for_some, e_asg, tg_some, e_gN, e_gT2, e_gT3, e_frz, frz_own, e_retOwn, ch_b, e_lc, co_some, lc_some, wipe_nil, wipe_cons, end_rt, end_nx, pt_none, pt_some, int_some, e_cut, cut_l, cut_t, e_app, e_sRng, pad_0, sl_f, sl_t, sl_nil, add_i, sub_i, lt_i, le_i, gt_i, ge_i, neg_i, not_d, len_l, len_t, ix_l, ix_t, max2_i, min2_i, tup_l, tup_t, lst_l, lst_t, rev_l, rev_t, bool_i, bool_b, int_b, isn_n, e_chain, e_par, e_m3, List.length_cons, List.length_nil, List.replicate, List.cons_append, List.nil_append, Option.map_some, Nat.reduceAdd, Nat.reduceSub, Nat.zero_add, if_true, if_false, ite_true, ite_false, Bool.false_eq_true, reduceCtorEq, decide_true, decide_false, not_true, not_false_iff, Bool.not_true, Bool.not_false, Bool.and_true, Bool.true_and, Bool.and_false, Bool.false_and, Bool.or_true, Bool.true_or, Bool.or_false, Bool.false_or, Mi.m_law_is_strand, Mi.G_law_is_strand, is_tup hn, isT, ne_i, e0, e1, is_str (noDict_Pl px), isStrandB, isNameD, show (((0 + 1 + 1 : Nat) : Int) == 2) = true from rfl]
    · have e2 : ((ds.length : Int) == 2) = false := by simpa using (show (ds.length : Int) ≠ 2 by omega)
      simp only [e_run, e_seq, seq_nx, seq_rt, seq_none, e_skip, e_set, e_own, nxK_some, vK_some, oK_some, e_ret, rtK_some, e_if, ifK_some, e_fVar, e_bVar, va_val, vb_val, vb_own, vb_bor, at_0, at_S, set_0, set_S, e_K, e_f1, o1_some, e_f2, o2_some, e_and, and_t, and_f, and_b, e_or, or_b, e_tOf, to_b, e_tAnd, tand_b, e_tOr, tor_b, e_tNot, not_b, e_tYes, e_fIf, fif_b, e_nil, e_cons, cons_some, e_tup, tup_some, e_lst, lst_some, e_call, call_some, e_m1, e_m2, e_sSeq, seqs_l, seqs_t, seqs_s, e_for, for_some, e_asg, tg_some, e_gN, e_gT2, e_gT3, e_frz, frz_own, e_retOwn, ch_b, e_lc, co_some, lc_some, wipe_nil, wipe_cons, end_rt, end_nx, pt_none, pt_some, int_some, e_cut, cut_l, cut_t, e_app, e_sRng, pad_0, sl_f, sl_t, sl_nil, add_i, sub_i, lt_i, le_i, gt_i, ge_i, neg_i, not_d, len_l, len_t, ix_l, ix_t, max2_i, min2_i, tup_l, tup_t, lst_l, lst_t, rev_l, rev_t, bool_i, bool_b, int_b, isn_n, e_chain, e_par, e_m3, List.length_cons, List.length_nil, List.replicate, List.cons_append, List.nil_append, Option.map_some, Nat.reduceAdd, Nat.reduceSub, Nat.zero_add, if_true, if_false, ite_true, ite_false, Bool.false_eq_true, reduceCtorEq, decide_true, decide_false, not_true, not_false_iff, Bool.not_true, Bool.not_false, Bool.and_true, Bool.true_and, Bool.and_false, Bool.false_and, Bool.or_true, Bool.true_or, Bool.or_false, Bool.false_or, Mi.m_law_is_strand, Mi.G_law_is_strand, is_tup hn, isT, ne_i, e2, isStrandB_len h2]
  | dict _ => cases hn
  | _ => simp only [e_run, e_seq, seq_nx, seq_rt, seq_none, e_skip, e_set, e_own, nxK_some, vK_some, oK_some, e_ret, rtK_some, e_if, ifK_some, e_fVar, e_bVar, va_val, vb_val, vb_own, vb_bor, at_0, at_S, set_0, set_S, e_K, e_f1, o1_some, e_f2, o2_some, e_and, and_t, and_f, and_b, e_or, or_b, e_tOf, to_b, e_tAnd, tand_b, e_tOr, tor_b, e_tNot, not_b, e_tYes, e_fIf, fif_b, e_nil, e_cons, cons_some, e_tup, tup_some, e_lst, lst_some, e_call, call_some, e_m1, e_m2, e_sSeq, seqs_l, seqs_t, seqs_s, e_for, for_some, e_asg, tg_some, e_gN, e_gT2, e_gT3, e_frz, frz_own, e_retOwn, ch_b, e_lc, co_some, lc_some, wipe_nil, wipe_cons, end_rt, end_nx, pt_none, pt_some, int_some, e_cut, cut_l, cut_t, e_app, e_sRng, pad_0, sl_f, sl_t, sl_nil, add_i, sub_i, lt_i, le_i, gt_i, ge_i, neg_i, not_d, len_l, len_t, ix_l, ix_t, max2_i, min2_i, tup_l, tup_t, lst_l, lst_t, rev_l, rev_t, bool_i, bool_b, int_b, isn_n, e_chain, e_par, e_m3, List.length_cons, List.length_nil, List.replicate, List.cons_append, List.nil_append, Option.map_some, Nat.reduceAdd, Nat.reduceSub, Nat.zero_add, if_true, if_false, ite_true, ite_false, Bool.false_eq_true, reduceCtorEq, decide_true, decide_false, not_true, not_false_iff, Bool.not_true, Bool.not_false, Bool.and_true, Bool.true_and, Bool.and_false, Bool.false_and, Bool.or_true, Bool.true_or, Bool.or_false, Bool.false_or, Mi.m_law_is_strand, Mi.G_law_is_strand, is_tup hn, isT, isStrandB]
end Fact
set_option maxRecDepth 100000
/-! Both looks agree. -/
namespace Fact
open PySem Pu
mutual
def tiedB : D → Bool
  | .tuple ds => isStrandB (.tuple ds) || (decide (1 < ds.length) && tiedsB ds)
  | .list _ => false
  | .dict _ => false
  | .str _ => false
  | .none => false
  | .bool _ => false
  | .int _ => false
def tiedsB : List D → Bool
  | [] => true
  | d :: ds => tiedB d && tiedsB ds
end
def pairOf : List D → Str × D
  | [.str x, y] => (x, y)
  | _ => ("", .none)
mutual
def strP : D → List (Str × D)
  | .tuple ds => if isStrandB (.tuple ds) then [pairOf ds] else strPs ds
  | .list _ => []
  | .dict _ => []
  | .str _ => []
  | .none => []
  | .bool _ => []
  | .int _ => []
def strPs : List D → List (Str × D)
  | [] => []
  | d :: ds => strP d ++ strPs ds
end
mutual
def namesL : D → List D
  | .tuple ds => if isStrandB (.tuple ds) then [.str (pairOf ds).1] else if ds.length < 2 then [.none] else namesLs ds
  | .list _ => [.none]
  | .dict _ => [.none]
  | .str _ => [.none]
  | .none => [.none]
  | .bool _ => [.none]
  | .int _ => [.none]
def namesLs : List D → List D
  | [] => []
  | d :: ds => namesL d ++ namesLs ds
end
def encP (p : Str × D) : D := .tuple [.str p.1, p.2]
theorem sz_mem : ∀ {ds : List D} {d : D}, d ∈ ds → sz d ≤ szs ds
  | x :: ds, d, h => by
    simp only [szs]
    rcases List.mem_cons.mp h with rfl | h
    · omega
    · have := sz_mem h; omega
theorem strand_form : ∀ {ds : List D}, isStrandB (.tuple ds) = true → ∃ x y, ds = [.str x, y]
  | [.str x, y], _ => ⟨x, y, rfl⟩
  | [], h => by cases h
  | [_], h => by cases h
  | _ :: _ :: _ :: _, h => by cases h
  | [.none, _], h => by cases h
  | [.bool _, _], h => by cases h
  | [.int _, _], h => by cases h
  | [.list _, _], h => by cases h
  | [.tuple _, _], h => by cases h
  | [.dict _, _], h => by cases h
mutual
theorem strP_len : ∀ d : D, (strP d).length ≤ sz d
  | .tuple ds => by
    have := strPs_len ds
    simp only [strP, sz]
    split
    · simp
    · omega
  | .list _ => by simp [strP]
  | .dict _ => by simp [strP]
  | .str _ => by simp [strP]
  | .none => by simp [strP]
  | .bool _ => by simp [strP]
  | .int _ => by simp [strP]
theorem strPs_len : ∀ ds : List D, (strPs ds).length ≤ szs ds
  | [] => Nat.le_refl _
  | d :: ds => by have := strP_len d; have := strPs_len ds; simp [strPs, szs]; omega
end
mutual
theorem namesL_len : ∀ d : D, (namesL d).length ≤ sz d
  | .tuple ds => by
    have := namesLs_len ds
    simp only [namesL, sz]
    split
    · simp
    · split
      · simp
      · omega
  | .list _ => by simp [namesL, sz]
  | .dict _ => by simp [namesL, sz]
  | .str _ => by simp [namesL, sz]
  | .none => by simp [namesL, sz]
  | .bool _ => by simp [namesL, sz]
  | .int _ => by simp [namesL, sz]
theorem namesLs_len : ∀ ds : List D, (namesLs ds).length ≤ szs ds
  | [] => Nat.le_refl _
  | d :: ds => by have := namesL_len d; have := namesLs_len ds; simp [namesLs, szs]; omega
end
def nameLike : D → Bool
  | .none => true
  | .str _ => true
  | _ => false
mutual
theorem namesL_like : ∀ d : D, ∀ z ∈ namesL d, nameLike z = true
  | .tuple ds => by
    simp only [namesL]
    split
    · intro z hz; rw [List.mem_singleton.mp hz]; rfl
    · split
      · intro z hz; rw [List.mem_singleton.mp hz]; rfl
      · exact namesLs_like ds
  | .list _ => fun z hz => by rw [List.mem_singleton.mp hz]; rfl
  | .dict _ => fun z hz => by rw [List.mem_singleton.mp hz]; rfl
  | .str _ => fun z hz => by rw [List.mem_singleton.mp hz]; rfl
  | .none => fun z hz => by rw [List.mem_singleton.mp hz]; rfl
  | .bool _ => fun z hz => by rw [List.mem_singleton.mp hz]; rfl
  | .int _ => fun z hz => by rw [List.mem_singleton.mp hz]; rfl
theorem namesLs_like : ∀ ds : List D, ∀ z ∈ namesLs ds, nameLike z = true
  | [] => fun z hz => by cases hz
  | d :: ds => fun z hz => by
    rcases List.mem_append.mp hz with h | h
    · exact namesL_like d z h
    · exact namesLs_like ds z h
end
mutual
theorem names_tied : ∀ d : D, (tiedB d = true → namesL d = (strP d).map fun p => .str p.1) ∧ (tiedB d = false → PyData.none ∈ namesL d)
  | .tuple ds => by
    have ih := namess_tied ds
    simp only [tiedB, namesL, strP]
    cases hs : isStrandB (.tuple ds) with
    | true => simp
    | false =>
      simp only [Bool.false_or, Bool.false_eq_true, if_false]
      by_cases h : ds.length < 2
      · rw [if_pos h]
        have : ¬ 1 < ds.length := by omega
        simp [this]
      · rw [if_neg h]
        have : 1 < ds.length := by omega
        simp only [this, decide_true, Bool.true_and]
        exact ih
  | .list _ => by simp [tiedB, namesL]
  | .dict _ => by simp [tiedB, namesL]
  | .str _ => by simp [tiedB, namesL]
  | .none => by simp [tiedB, namesL]
  | .bool _ => by simp [tiedB, namesL]
  | .int _ => by simp [tiedB, namesL]
theorem namess_tied : ∀ ds : List D, (tiedsB ds = true → namesLs ds = (strPs ds).map fun p => .str p.1) ∧ (tiedsB ds = false → PyData.none ∈ namesLs ds)
  | [] => by simp [tiedsB, namesLs, strPs]
  | d :: ds => by
    have a := names_tied d
    have b := namess_tied ds
    simp only [tiedsB, namesLs, strPs]
    cases h1 : tiedB d with
    | false => simp only [Bool.false_and, Bool.false_eq_true, false_implies, true_and]; exact fun _ => List.mem_append_left _ (a.2 h1)
    | true =>
      simp only [Bool.true_and]
      exact ⟨fun h => by rw [a.1 h1, b.1 h, List.map_append], fun h => List.mem_append_right _ (b.2 h)⟩
end
theorem tied_tuple : ∀ {d : D}, tiedB d = true → ∃ ds, d = .tuple ds
  | .tuple ds, _ => ⟨ds, rfl⟩
  | .list _, h => by cases h
  | .dict _, h => by cases h
  | .str _, h => by cases h
  | .none, h => by cases h
  | .bool _, h => by cases h
  | .int _, h => by cases h
theorem tieds_iff : ∀ {ds : List D}, tiedsB ds = true ↔ ∀ d ∈ ds, tiedB d = true
  | [] => by simp [tiedsB]
  | d :: ds => by simp [tiedsB, tieds_iff (ds := ds)]
theorem tiedsB_all : ∀ ds : List D, ds.all tiedB = tiedsB ds
  | [] => rfl
  | d :: ds => by simp [tiedsB, tiedsB_all ds]
theorem len2 {ds : List D} (h : ¬ (1 : Int) < ds.length) : ¬ 1 < ds.length := by omega
theorem tied_ok' : ∀ (n : Nat) (d : D), Pl d = true → d.depth < n → sz d ≤ 1000000 → Mi.mf_is_tied_so n [d] = some (.bool (tiedB d))
  | 0, d, _, h, _ => absurd h (Nat.not_lt_zero _)
  | n + 1, d, hp, hd, hs => by
    have hn := noDict_Pl hp
    cases hst : isStrandB d with
    | true =>
      have ht : tiedB d = true := by cases d <;> first | (simp [tiedB, hst]; done) | cases hst
      simp only [e_run, e_seq, seq_nx, seq_rt, seq_none, e_skip, e_set, e_own, nxK_some, vK_some, oK_some, e_ret, rtK_some, e_if, ifK_some, e_fVar, e_bVar, va_val, vb_val, vb_own, vb_bor, at_0, at_S, set_0, set_S, e_K, e_f1, o1_some, e_f2, o2_some, e_and, and_t, and_f, and_b, e_or, or_b, e_tOf, to_b, e_tAnd, tand_b, e_tOr, tor_b, e_tNot, not_b, e_tYes, e_fIf, fif_b, e_nil, e_cons, cons_some, e_tup, tup_some, e_lst, lst_some, e_call, call_some, e_m1, e_m2, e_sSeq, seqs_l, seqs_t, seqs_s, e_for, for_some, e_asg, tg_some, e_gN, e_gT2, e_gT3, e_frz, frz_own, e_retOwn, ch_b, e_lc, co_some, lc_some, wipe_nil, wipe_cons, end_rt, end_nx, pt_none, pt_some, int_some, e_cut, cut_l, cut_t, e_app, e_sRng, pad_0, sl_f, sl_t, sl_nil, add_i, sub_i, lt_i, le_i, gt_i, ge_i, neg_i, not_d, len_l, len_t, ix_l, ix_t, max2_i, min2_i, tup_l, tup_t, lst_l, lst_t, rev_l, rev_t, bool_i, bool_b, int_b, isn_n, e_chain, e_par, e_m3, List.length_cons, List.length_nil, List.replicate, List.cons_append, List.nil_append, Option.map_some, Nat.reduceAdd, Nat.reduceSub, Nat.zero_add, if_true, if_false, ite_true, ite_false, Bool.false_eq_true, reduceCtorEq, decide_true, decide_false, not_true, not_false_iff, Bool.not_true, Bool.not_false, Bool.and_true, Bool.true_and, Bool.and_false, Bool.false_and, Bool.or_true, Bool.true_or, Bool.or_false, Bool.false_or, Mi.mf_is_tied_so, Mi.G_is_tied_so, is_strand_ok hp, hst, ht]
    | false =>
      cases d with
      | tuple ds =>
        have hl := len_szs ds
        simp only [sz] at hs
        simp only [PyData.depth] at hd
        have hpl : ∀ x ∈ ds, Pl x = true := Pls_iff.mp (by simpa [Pl] using hp)
        by_cases h : (1 : Int) < ds.length
        · have h' : 1 < ds.length := by omega
          have hc : compL (gN 1) tYes (fCall (Mi.mf_is_tied_so n) [fVar 1]) [.val (.tuple ds), .no] (ds.map id) = some (ds.map fun x => .bool (tiedB x)) := compL_of fun x hx => ⟨_, rfl, by
            have := depth_mem hx
            have h3 := sz_mem hx
            simp only [e_run, e_seq, seq_nx, seq_rt, seq_none, e_skip, e_set, e_own, nxK_some, vK_some, oK_some, e_ret, rtK_some, e_if, ifK_some, e_fVar, e_bVar, va_val, vb_val, vb_own, vb_bor, at_0, at_S, set_0, set_S, e_K, e_f1, o1_some, e_f2, o2_some, e_and, and_t, and_f, and_b, e_or, or_b, e_tOf, to_b, e_tAnd, tand_b, e_tOr, tor_b, e_tNot, not_b, e_tYes, e_fIf, fif_b, e_nil, e_cons, cons_some, e_tup, tup_some, e_lst, lst_some, e_call, call_some, e_m1, e_m2, e_sSeq, seqs_l, seqs_t, seqs_s, e_for, for_some, e_asg, tg_some, e_gN, e_gT2, e_gT3, e_frz, frz_own, e_retOwn, ch_b, e_lc, co_some, lc_some, wipe_nil, wipe_cons, end_rt, end_nx, pt_none, pt_some, int_some, e_cut, cut_l, cut_t, e_app, e_sRng, pad_0, sl_f, sl_t, sl_nil, add_i, sub_i, lt_i, le_i, gt_i, ge_i, neg_i, not_d, len_l, len_t, ix_l, ix_t, max2_i, min2_i, tup_l, tup_t, lst_l, lst_t, rev_l, rev_t, bool_i, bool_b, int_b, isn_n, e_chain, e_par, e_m3, List.length_cons, List.length_nil, List.replicate, List.cons_append, List.nil_append, Option.map_some, Nat.reduceAdd, Nat.reduceSub, Nat.zero_add, if_true, if_false, ite_true, ite_false, Bool.false_eq_true, reduceCtorEq, decide_true, decide_false, not_true, not_false_iff, Bool.not_true, Bool.not_false, Bool.and_true, Bool.true_and, Bool.and_false, Bool.false_and, Bool.or_true, Bool.true_or, Bool.or_false, Bool.false_or, tied_ok' n x (hpl x hx) (by omega) (by omega), id]⟩
          rw [List.map_id] at hc
          have hf : fitsL (ds.map fun x => PyData.bool (tiedB x)).length = true := fitsL_small (by rw [List.length_map]; omega)
          simp only [e_run, e_seq, seq_nx, seq_rt, seq_none, e_skip, e_set, e_own, nxK_some, vK_some, oK_some, e_ret, rtK_some, e_if, ifK_some, e_fVar, e_bVar, va_val, vb_val, vb_own, vb_bor, at_0, at_S, set_0, set_S, e_K, e_f1, o1_some, e_f2, o2_some, e_and, and_t, and_f, and_b, e_or, or_b, e_tOf, to_b, e_tAnd, tand_b, e_tOr, tor_b, e_tNot, not_b, e_tYes, e_fIf, fif_b, e_nil, e_cons, cons_some, e_tup, tup_some, e_lst, lst_some, e_call, call_some, e_m1, e_m2, e_sSeq, seqs_l, seqs_t, seqs_s, e_for, for_some, e_asg, tg_some, e_gN, e_gT2, e_gT3, e_frz, frz_own, e_retOwn, ch_b, e_lc, co_some, lc_some, wipe_nil, wipe_cons, end_rt, end_nx, pt_none, pt_some, int_some, e_cut, cut_l, cut_t, e_app, e_sRng, pad_0, sl_f, sl_t, sl_nil, add_i, sub_i, lt_i, le_i, gt_i, ge_i, neg_i, not_d, len_l, len_t, ix_l, ix_t, max2_i, min2_i, tup_l, tup_t, lst_l, lst_t, rev_l, rev_t, bool_i, bool_b, int_b, isn_n, e_chain, e_par, e_m3, List.length_cons, List.length_nil, List.replicate, List.cons_append, List.nil_append, Option.map_some, Nat.reduceAdd, Nat.reduceSub, Nat.zero_add, if_true, if_false, ite_true, ite_false, Bool.false_eq_true, reduceCtorEq, decide_true, decide_false, not_true, not_false_iff, Bool.not_true, Bool.not_false, Bool.and_true, Bool.true_and, Bool.and_false, Bool.false_and, Bool.or_true, Bool.true_or, Bool.or_false, Bool.false_or, Mi.mf_is_tied_so, Mi.G_is_tied_so, is_strand_ok hp, hst, is_tup hn, isT, h, hc, hf, all_map, tiedsB_all, tiedB, h']
        · have h' := len2 h
          simp only [e_run, e_seq, seq_nx, seq_rt, seq_none, e_skip, e_set, e_own, nxK_some, vK_some, oK_some, e_ret, rtK_some, e_if, ifK_some, e_fVar, e_bVar, va_val, vb_val, vb_own, vb_bor, at_0, at_S, set_0, set_S, e_K, e_f1, o1_some, e_f2, o2_some, e_and, and_t, and_f, and_b, e_or, or_b, e_tOf, to_b, e_tAnd, tand_b, e_tOr, tor_b, e_tNot, not_b, e_tYes, e_fIf, fif_b, e_nil, e_cons, cons_some, e_tup, tup_some, e_lst, lst_some, e_call, call_some, e_m1, e_m2, e_sSeq, seqs_l, seqs_t, seqs_s, e_for, for_some, e_asg, tg_some, e_gN, e_gT2, e_gT3, e_frz, frz_own, e_retOwn, ch_b, e_lc, co_some, lc_some, wipe_nil, wipe_cons, end_rt, end_nx, pt_none, pt_some, int_some, e_cut, cut_l, cut_t, e_app, e_sRng, pad_0, sl_f, sl_t, sl_nil, add_i, sub_i, lt_i, le_i, gt_i, ge_i, neg_i, not_d, len_l, len_t, ix_l, ix_t, max2_i, min2_i, tup_l, tup_t, lst_l, lst_t, rev_l, rev_t, bool_i, bool_b, int_b, isn_n, e_chain, e_par, e_m3, List.length_cons, List.length_nil, List.replicate, List.cons_append, List.nil_append, Option.map_some, Nat.reduceAdd, Nat.reduceSub, Nat.zero_add, if_true, if_false, ite_true, ite_false, Bool.false_eq_true, reduceCtorEq, decide_true, decide_false, not_true, not_false_iff, Bool.not_true, Bool.not_false, Bool.and_true, Bool.true_and, Bool.and_false, Bool.false_and, Bool.or_true, Bool.true_or, Bool.or_false, Bool.false_or, Mi.mf_is_tied_so, Mi.G_is_tied_so, is_strand_ok hp, hst, is_tup hn, isT, h, tiedB, h']
      | dict _ => cases hn
      | _ => simp only [e_run, e_seq, seq_nx, seq_rt, seq_none, e_skip, e_set, e_own, nxK_some, vK_some, oK_some, e_ret, rtK_some, e_if, ifK_some, e_fVar, e_bVar, va_val, vb_val, vb_own, vb_bor, at_0, at_S, set_0, set_S, e_K, e_f1, o1_some, e_f2, o2_some, e_and, and_t, and_f, and_b, e_or, or_b, e_tOf, to_b, e_tAnd, tand_b, e_tOr, tor_b, e_tNot, not_b, e_tYes, e_fIf, fif_b, e_nil, e_cons, cons_some, e_tup, tup_some, e_lst, lst_some, e_call, call_some, e_m1, e_m2, e_sSeq, seqs_l, seqs_t, seqs_s, e_for, for_some, e_asg, tg_some, e_gN, e_gT2, e_gT3, e_frz, frz_own, e_retOwn, ch_b, e_lc, co_some, lc_some, wipe_nil, wipe_cons, end_rt, end_nx, pt_none, pt_some, int_some, e_cut, cut_l, cut_t, e_app, e_sRng, pad_0, sl_f, sl_t, sl_nil, add_i, sub_i, lt_i, le_i, gt_i, ge_i, neg_i, not_d, len_l, len_t, ix_l, ix_t, max2_i, min2_i, tup_l, tup_t, lst_l, lst_t, rev_l, rev_t, bool_i, bool_b, int_b, isn_n, e_chain, e_par, e_m3, List.length_cons, List.length_nil, List.replicate, List.cons_append, List.nil_append, Option.map_some, Nat.reduceAdd, Nat.reduceSub, Nat.zero_add, if_true, if_false, ite_true, ite_false, Bool.false_eq_true, reduceCtorEq, decide_true, decide_false, not_true, not_false_iff, Bool.not_true, Bool.not_false, Bool.and_true, Bool.true_and, Bool.and_false, Bool.false_and, Bool.or_true, Bool.true_or, Bool.or_false, Bool.false_or, Mi.mf_is_tied_so, Mi.G_is_tied_so, is_strand_ok hp, hst, is_tup hn, isT, tiedB]
end Fact
set_option maxRecDepth 100000
/-! Both looks agree, at the end. -/
namespace Fact
open PySem Pu
/-- two fors: a row for each thing -/
theorem compL2_of {α β : Type} {tg tg1 : TgF} {src1 : FA} {vs1 : List Nat} {e : F1} {ρ : Rho} {enc : α → D} {g : α → List β} {enc2 f : β → D} {xs : List α}
    (h : ∀ x ∈ xs, ∃ ρ1, tg (enc x) ρ = some ρ1 ∧ src1 ρ1 = some ((g x).map enc2) ∧ ∀ y ∈ g x, ∃ ρ2, tg1 (enc2 y) (wipeR ρ1 vs1) = some ρ2 ∧ e ρ2 = some (f y)) :
    compL2 tg tYes vs1 src1 tg1 tYes e ρ (xs.map enc) = some ((xs.flatMap g).map f) := by
  induction xs with
  | nil => rfl
  | cons x xs ih =>
    obtain ⟨ρ1, h1, h2, h3⟩ := h x List.mem_cons_self
    have h4 := ih fun d m => h d (List.mem_cons_of_mem _ m)
    simp only [List.map_cons, compL2, h1, tYes, Option.bind_some, if_true, h2, compL_of h3, h4, List.flatMap_cons, List.map_append]
def co2K (tg : TgF) (t : FB) (vs1 : List Nat) (src1 : FA) (tg1 : TgF) (t1 : FB) (e : F1) (ρ : Rho) : Option (List D) → Option (List D)
  | some ds => compL2 tg t vs1 src1 tg1 t1 e ρ ds
  | none => none
theorem e_lc2 {vs vs1 : List Nat} {src src1 : FA} {tg tg1 : TgF} {t t1 : FB} {e : F1} {ρ : Rho} : fLc2 vs src tg t vs1 src1 tg1 t1 e ρ = lcK (co2K tg t vs1 src1 tg1 t1 e (wipeR ρ vs) (src ρ)) := nr (by
  unfold fLc2
  cases src ρ with
  | none => rfl
  | some ds =>
    show (compL2 tg t vs1 src1 tg1 t1 e (wipeR ρ vs) ds).bind _ = lcK (compL2 tg t vs1 src1 tg1 t1 e (wipeR ρ vs) ds)
    cases compL2 tg t vs1 src1 tg1 t1 e (wipeR ρ vs) ds <;> rfl)
theorem co2_some {vs1 : List Nat} {src1 : FA} {tg tg1 : TgF} {t t1 : FB} {e : F1} {ρ : Rho} {ds : List D} : co2K tg t vs1 src1 tg1 t1 e ρ (some ds) = compL2 tg t vs1 src1 tg1 t1 e ρ ds := nr rfl
theorem strPs_flat : ∀ ds : List D, strPs ds = ds.flatMap strP
  | [] => rfl
  | d :: ds => by simp [strPs, strPs_flat ds]
theorem strands_ok : ∀ (n : Nat) (d : D), Pl d = true → tiedB d = true → d.depth < n → sz d ≤ 1000000 → Mi.mf_strands_of n [d] = some (.list ((strP d).map encP))
  | 0, d, _, _, h, _ => absurd h (Nat.not_lt_zero _)
  | n + 1, d, hp, ht, hd, hs => by
    obtain ⟨ds, rfl⟩ := tied_tuple ht
    have hpl : ∀ x ∈ ds, Pl x = true := Pls_iff.mp (by simpa [Pl] using hp)
    cases hst : isStrandB (.tuple ds) with
    | true =>
      obtain ⟨x, y, rfl⟩ := strand_form hst
      have e0 : L2.atI [PyData.str x, y] 0 = some (.str x) := rfl
      simp only [e_run, e_seq, seq_nx, seq_rt, seq_none, e_skip, e_set, e_own, nxK_some, vK_some, oK_some, e_ret, rtK_some, e_if, ifK_some, e_fVar, e_bVar, va_val, vb_val, vb_own, vb_bor, at_0, at_S, set_0, set_S, e_K, e_f1, o1_some, e_f2, o2_some, e_and, and_t, and_f, and_b, e_or, or_b, e_tOf, to_b, e_tAnd, tand_b, e_tOr, tor_b, e_tNot, not_b, e_tYes, e_fIf, fif_b, e_nil, e_cons, cons_some, e_tup, tup_some, e_lst, lst_some, e_call, call_some, e_m1, e_m2, e_sSeq, seqs_l, seqs_t, seqs_s, e_for, for_some, e_asg, tg_some, e_gN, e_gT2, e_gT3, e_frz, frz_own, e_retOwn, ch_b, e_lc, co_some, lc_some, wipe_nil, wipe_cons, end_rt, end_nx, pt_none, pt_some, int_some, e_cut, cut_l, cut_t, e_app, e_sRng, pad_0, sl_f, sl_t, sl_nil, add_i, sub_i, lt_i, le_i, gt_i, ge_i, neg_i, not_d, len_l, len_t, ix_l, ix_t, max2_i, min2_i, tup_l, tup_t, lst_l, lst_t, rev_l, rev_t, bool_i, bool_b, int_b, isn_n, e_chain, e_par, e_m3, List.length_cons, List.length_nil, List.replicate, List.cons_append, List.nil_append, Option.map_some, Nat.reduceAdd, Nat.reduceSub, Nat.zero_add, if_true, if_false, ite_true, ite_false, Bool.false_eq_true, reduceCtorEq, decide_true, decide_false, not_true, not_false_iff, Bool.not_true, Bool.not_false, Bool.and_true, Bool.true_and, Bool.and_false, Bool.false_and, Bool.or_true, Bool.true_or, Bool.or_false, Bool.false_or, Mi.mf_strands_of, Mi.G_strands_of, Mi.m_is_one, Mi.G_is_one, e0, is_str (d := .str x) rfl, isT]
      simp [strP, hst, pairOf, encP]
    | false =>
      have h2 : 1 < ds.length ∧ tiedsB ds = true := by simpa [tiedB, hst] using ht
      simp only [sz] at hs
      simp only [PyData.depth] at hd
      have all := tieds_iff.mp h2.2
      match ds, h2 with
      | a :: r, _ =>
        obtain ⟨as, rfl⟩ := tied_tuple (all a List.mem_cons_self)
        have e0 : L2.atI (PyData.tuple as :: r) 0 = some (.tuple as) := by
          unfold L2.atI L2.ixN
          rw [if_pos (by omega), if_pos (by simp only [List.length_cons]; omega)]
          rfl
        have hh : isInst .str (.tuple as) = some (.bool false) := rfl
        have hc := compL2_of (tg := gN 1) (src1 := sSeq (fCall (Mi.mf_strands_of n) [fVar 1])) (tg1 := gN 2) (vs1 := [2]) (e := fVar 2) (ρ := [.val (.tuple (.tuple as :: r)), .no, .no]) (enc := id) (g := strP) (enc2 := encP) (f := encP) (xs := .tuple as :: r) fun x hx => by
          have h3 := sz_mem hx
          have h4 := depth_mem hx
          exact ⟨_, rfl, by simp only [e_run, e_seq, seq_nx, seq_rt, seq_none, e_skip, e_set, e_own, nxK_some, vK_some, oK_some, e_ret, rtK_some, e_if, ifK_some, e_fVar, e_bVar, va_val, vb_val, vb_own, vb_bor, at_0, at_S, set_0, set_S, e_K, e_f1, o1_some, e_f2, o2_some, e_and, and_t, and_f, and_b, e_or, or_b, e_tOf, to_b, e_tAnd, tand_b, e_tOr, tor_b, e_tNot, not_b, e_tYes, e_fIf, fif_b, e_nil, e_cons, cons_some, e_tup, tup_some, e_lst, lst_some, e_call, call_some, e_m1, e_m2, e_sSeq, seqs_l, seqs_t, seqs_s, e_for, for_some, e_asg, tg_some, e_gN, e_gT2, e_gT3, e_frz, frz_own, e_retOwn, ch_b, e_lc, co_some, lc_some, wipe_nil, wipe_cons, end_rt, end_nx, pt_none, pt_some, int_some, e_cut, cut_l, cut_t, e_app, e_sRng, pad_0, sl_f, sl_t, sl_nil, add_i, sub_i, lt_i, le_i, gt_i, ge_i, neg_i, not_d, len_l, len_t, ix_l, ix_t, max2_i, min2_i, tup_l, tup_t, lst_l, lst_t, rev_l, rev_t, bool_i, bool_b, int_b, isn_n, e_chain, e_par, e_m3, List.length_cons, List.length_nil, List.replicate, List.cons_append, List.nil_append, Option.map_some, Nat.reduceAdd, Nat.reduceSub, Nat.zero_add, if_true, if_false, ite_true, ite_false, Bool.false_eq_true, reduceCtorEq, decide_true, decide_false, not_true, not_false_iff, Bool.not_true, Bool.not_false, Bool.and_true, Bool.true_and, Bool.and_false, Bool.false_and, Bool.or_true, Bool.true_or, Bool.or_false, Bool.false_or, id, strands_ok n x (hpl x hx) (all x hx) (by omega) (by omega)], fun y _ => ⟨_, rfl, by simp only [e_run, e_seq, seq_nx, seq_rt, seq_none, e_skip, e_set, e_own, nxK_some, vK_some, oK_some, e_ret, rtK_some, e_if, ifK_some, e_fVar, e_bVar, va_val, vb_val, vb_own, vb_bor, at_0, at_S, set_0, set_S, e_K, e_f1, o1_some, e_f2, o2_some, e_and, and_t, and_f, and_b, e_or, or_b, e_tOf, to_b, e_tAnd, tand_b, e_tOr, tor_b, e_tNot, not_b, e_tYes, e_fIf, fif_b, e_nil, e_cons, cons_some, e_tup, tup_some, e_lst, lst_some, e_call, call_some, e_m1, e_m2, e_sSeq, seqs_l, seqs_t, seqs_s, e_for, for_some, e_asg, tg_some, e_gN, e_gT2, e_gT3, e_frz, frz_own, e_retOwn, ch_b, e_lc, co_some, lc_some, wipe_nil, wipe_cons, end_rt, end_nx, pt_none, pt_some, int_some, e_cut, cut_l, cut_t, e_app, e_sRng, pad_0, sl_f, sl_t, sl_nil, add_i, sub_i, lt_i, le_i, gt_i, ge_i, neg_i, not_d, len_l, len_t, ix_l, ix_t, max2_i, min2_i, tup_l, tup_t, lst_l, lst_t, rev_l, rev_t, bool_i, bool_b, int_b, isn_n, e_chain, e_par, e_m3, List.length_cons, List.length_nil, List.replicate, List.cons_append, List.nil_append, Option.map_some, Nat.reduceAdd, Nat.reduceSub, Nat.zero_add, if_true, if_false, ite_true, ite_false, Bool.false_eq_true, reduceCtorEq, decide_true, decide_false, not_true, not_false_iff, Bool.not_true, Bool.not_false, Bool.and_true, Bool.true_and, Bool.and_false, Bool.false_and, Bool.or_true, Bool.true_or, Bool.or_false, Bool.false_or, id]⟩⟩
        rw [List.map_id] at hc
        have hf : fitsL (((PyData.tuple as :: r).flatMap strP).map encP).length = true := fitsL_small (by
          rw [List.length_map, ← strPs_flat]
          have := strPs_len (.tuple as :: r)
          omega)
        simp only [e_run, e_seq, seq_nx, seq_rt, seq_none, e_skip, e_set, e_own, nxK_some, vK_some, oK_some, e_ret, rtK_some, e_if, ifK_some, e_fVar, e_bVar, va_val, vb_val, vb_own, vb_bor, at_0, at_S, set_0, set_S, e_K, e_f1, o1_some, e_f2, o2_some, e_and, and_t, and_f, and_b, e_or, or_b, e_tOf, to_b, e_tAnd, tand_b, e_tOr, tor_b, e_tNot, not_b, e_tYes, e_fIf, fif_b, e_nil, e_cons, cons_some, e_tup, tup_some, e_lst, lst_some, e_call, call_some, e_m1, e_m2, e_sSeq, seqs_l, seqs_t, seqs_s, e_for, for_some, e_asg, tg_some, e_gN, e_gT2, e_gT3, e_frz, frz_own, e_retOwn, ch_b, e_lc, co_some, lc_some, wipe_nil, wipe_cons, end_rt, end_nx, pt_none, pt_some, int_some, e_cut, cut_l, cut_t, e_app, e_sRng, pad_0, sl_f, sl_t, sl_nil, add_i, sub_i, lt_i, le_i, gt_i, ge_i, neg_i, not_d, len_l, len_t, ix_l, ix_t, max2_i, min2_i, tup_l, tup_t, lst_l, lst_t, rev_l, rev_t, bool_i, bool_b, int_b, isn_n, e_chain, e_par, e_m3, List.length_cons, List.length_nil, List.replicate, List.cons_append, List.nil_append, Option.map_some, Nat.reduceAdd, Nat.reduceSub, Nat.zero_add, if_true, if_false, ite_true, ite_false, Bool.false_eq_true, reduceCtorEq, decide_true, decide_false, not_true, not_false_iff, Bool.not_true, Bool.not_false, Bool.and_true, Bool.true_and, Bool.and_false, Bool.false_and, Bool.or_true, Bool.true_or, Bool.or_false, Bool.false_or, Mi.mf_strands_of, Mi.G_strands_of, Mi.m_is_one, Mi.G_is_one, e0, hh, e_lc2, co2_some, hc, hf]
        simp only [strP, hst, Bool.false_eq_true, if_false, strPs_flat]
theorem namesLs_app : ∀ a b : List D, namesLs (a ++ b) = namesLs a ++ namesLs b
  | [], b => rfl
  | d :: a, b => by simp [namesLs, namesLs_app a b]
theorem law_names_ok : ∀ (n : Nat) (d : D), Pl d = true → d.depth < n → sz d ≤ 1000000 → Mi.mf_law_names_of n [d] = some (.list (namesL d))
  | 0, d, _, h, _ => absurd h (Nat.not_lt_zero _)
  | n + 1, d, hp, hd, hs => by
    have hn := noDict_Pl hp
    cases hst : isStrandB d with
    | true =>
      cases d with
      | tuple ds =>
        obtain ⟨x, y, rfl⟩ := strand_form hst
        have e0 : L2.atI [PyData.str x, y] 0 = some (.str x) := rfl
        simp only [e_run, e_seq, seq_nx, seq_rt, seq_none, e_skip, e_set, e_own, nxK_some, vK_some, oK_some, e_ret, rtK_some, e_if, ifK_some, e_fVar, e_bVar, va_val, vb_val, vb_own, vb_bor, at_0, at_S, set_0, set_S, e_K, e_f1, o1_some, e_f2, o2_some, e_and, and_t, and_f, and_b, e_or, or_b, e_tOf, to_b, e_tAnd, tand_b, e_tOr, tor_b, e_tNot, not_b, e_tYes, e_fIf, fif_b, e_nil, e_cons, cons_some, e_tup, tup_some, e_lst, lst_some, e_call, call_some, e_m1, e_m2, e_sSeq, seqs_l, seqs_t, seqs_s, e_for, for_some, e_asg, tg_some, e_gN, e_gT2, e_gT3, e_frz, frz_own, e_retOwn, ch_b, e_lc, co_some, lc_some, wipe_nil, wipe_cons, end_rt, end_nx, pt_none, pt_some, int_some, e_cut, cut_l, cut_t, e_app, e_sRng, pad_0, sl_f, sl_t, sl_nil, add_i, sub_i, lt_i, le_i, gt_i, ge_i, neg_i, not_d, len_l, len_t, ix_l, ix_t, max2_i, min2_i, tup_l, tup_t, lst_l, lst_t, rev_l, rev_t, bool_i, bool_b, int_b, isn_n, e_chain, e_par, e_m3, List.length_cons, List.length_nil, List.replicate, List.cons_append, List.nil_append, Option.map_some, Nat.reduceAdd, Nat.reduceSub, Nat.zero_add, if_true, if_false, ite_true, ite_false, Bool.false_eq_true, reduceCtorEq, decide_true, decide_false, not_true, not_false_iff, Bool.not_true, Bool.not_false, Bool.and_true, Bool.true_and, Bool.and_false, Bool.false_and, Bool.or_true, Bool.true_or, Bool.or_false, Bool.false_or, Mi.mf_law_names_of, Mi.G_law_names_of, law_is_strand_ok hp, hst, e0]
        simp [namesL, hst, pairOf]
      | _ => cases hst
    | false =>
      cases d with
      | tuple ds =>
        have hpl : ∀ x ∈ ds, Pl x = true := Pls_iff.mp (by simpa [Pl] using hp)
        simp only [sz] at hs
        simp only [PyData.depth] at hd
        by_cases h : (ds.length : Int) < 2
        · have h' : ds.length < 2 := by omega
          simp only [e_run, e_seq, seq_nx, seq_rt, seq_none, e_skip, e_set, e_own, nxK_some, vK_some, oK_some, e_ret, rtK_some, e_if, ifK_some, e_fVar, e_bVar, va_val, vb_val, vb_own, vb_bor, at_0, at_S, set_0, set_S, e_K, e_f1, o1_some, e_f2, o2_some, e_and, and_t, and_f, and_b, e_or, or_b, e_tOf, to_b, e_tAnd, tand_b, e_tOr, tor_b, e_tNot, not_b, e_tYes, e_fIf, fif_b, e_nil, e_cons, cons_some, e_tup, tup_some, e_lst, lst_some, e_call, call_some, e_m1, e_m2, e_sSeq, seqs_l, seqs_t, seqs_s, e_for, for_some, e_asg, tg_some, e_gN, e_gT2, e_gT3, e_frz, frz_own, e_retOwn, ch_b, e_lc, co_some, lc_some, wipe_nil, wipe_cons, end_rt, end_nx, pt_none, pt_some, int_some, e_cut, cut_l, cut_t, e_app, e_sRng, pad_0, sl_f, sl_t, sl_nil, add_i, sub_i, lt_i, le_i, gt_i, ge_i, neg_i, not_d, len_l, len_t, ix_l, ix_t, max2_i, min2_i, tup_l, tup_t, lst_l, lst_t, rev_l, rev_t, bool_i, bool_b, int_b, isn_n, e_chain, e_par, e_m3, List.length_cons, List.length_nil, List.replicate, List.cons_append, List.nil_append, Option.map_some, Nat.reduceAdd, Nat.reduceSub, Nat.zero_add, if_true, if_false, ite_true, ite_false, Bool.false_eq_true, reduceCtorEq, decide_true, decide_false, not_true, not_false_iff, Bool.not_true, Bool.not_false, Bool.and_true, Bool.true_and, Bool.and_false, Bool.false_and, Bool.or_true, Bool.true_or, Bool.or_false, Bool.false_or, Mi.mf_law_names_of, Mi.G_law_names_of, law_is_strand_ok hp, hst, is_tup hn, isT, h]
          simp [namesL, hst, h']
        · have h' : ¬ ds.length < 2 := by omega
          obtain ⟨ρ', h1, c, rfl⟩ := forL_inv (tg := gN 2) (body := Mi.B_law_names_of_1 (Mi.mf_law_names_of n)) (full := ds) (ds := ds) (pre := []) (ρ := [.val (.tuple ds), .val (.list []), .no])
            (I := fun pre ρ => ∃ c, ρ = [.val (.tuple ds), .val (.list (namesLs pre)), c]) rfl ⟨.no, rfl⟩ fun pre x post ρ e ⟨c, hρ⟩ => by
              subst hρ
              have hx : x ∈ ds := by rw [e]; simp
              have h3 := sz_mem hx
              have h4 := depth_mem hx
              have h5 := namesLs_len pre
              have h6 := namesL_len x
              have h7 : szs pre + sz x ≤ szs ds := by rw [e, szs_app]; simp only [szs]; omega
              refine ⟨_, _, rfl, ?_, .val x, rfl⟩
              have ha := add_l (x := namesLs pre) (y := namesL x) (by show _ ≤ 2 ^ 24; omega)
              simp only [e_run, e_seq, seq_nx, seq_rt, seq_none, e_skip, e_set, e_own, nxK_some, vK_some, oK_some, e_ret, rtK_some, e_if, ifK_some, e_fVar, e_bVar, va_val, vb_val, vb_own, vb_bor, at_0, at_S, set_0, set_S, e_K, e_f1, o1_some, e_f2, o2_some, e_and, and_t, and_f, and_b, e_or, or_b, e_tOf, to_b, e_tAnd, tand_b, e_tOr, tor_b, e_tNot, not_b, e_tYes, e_fIf, fif_b, e_nil, e_cons, cons_some, e_tup, tup_some, e_lst, lst_some, e_call, call_some, e_m1, e_m2, e_sSeq, seqs_l, seqs_t, seqs_s, e_for, for_some, e_asg, tg_some, e_gN, e_gT2, e_gT3, e_frz, frz_own, e_retOwn, ch_b, e_lc, co_some, lc_some, wipe_nil, wipe_cons, end_rt, end_nx, pt_none, pt_some, int_some, e_cut, cut_l, cut_t, e_app, e_sRng, pad_0, sl_f, sl_t, sl_nil, add_i, sub_i, lt_i, le_i, gt_i, ge_i, neg_i, not_d, len_l, len_t, ix_l, ix_t, max2_i, min2_i, tup_l, tup_t, lst_l, lst_t, rev_l, rev_t, bool_i, bool_b, int_b, isn_n, e_chain, e_par, e_m3, List.length_cons, List.length_nil, List.replicate, List.cons_append, List.nil_append, Option.map_some, Nat.reduceAdd, Nat.reduceSub, Nat.zero_add, if_true, if_false, ite_true, ite_false, Bool.false_eq_true, reduceCtorEq, decide_true, decide_false, not_true, not_false_iff, Bool.not_true, Bool.not_false, Bool.and_true, Bool.true_and, Bool.and_false, Bool.false_and, Bool.or_true, Bool.true_or, Bool.or_false, Bool.false_or, Mi.B_law_names_of_1, law_names_ok n x (hpl x hx) (by omega) (by omega), ha]
              simp [namesLs_app, namesLs]
          simp only [e_run, e_seq, seq_nx, seq_rt, seq_none, e_skip, e_set, e_own, nxK_some, vK_some, oK_some, e_ret, rtK_some, e_if, ifK_some, e_fVar, e_bVar, va_val, vb_val, vb_own, vb_bor, at_0, at_S, set_0, set_S, e_K, e_f1, o1_some, e_f2, o2_some, e_and, and_t, and_f, and_b, e_or, or_b, e_tOf, to_b, e_tAnd, tand_b, e_tOr, tor_b, e_tNot, not_b, e_tYes, e_fIf, fif_b, e_nil, e_cons, cons_some, e_tup, tup_some, e_lst, lst_some, e_call, call_some, e_m1, e_m2, e_sSeq, seqs_l, seqs_t, seqs_s, e_for, for_some, e_asg, tg_some, e_gN, e_gT2, e_gT3, e_frz, frz_own, e_retOwn, ch_b, e_lc, co_some, lc_some, wipe_nil, wipe_cons, end_rt, end_nx, pt_none, pt_some, int_some, e_cut, cut_l, cut_t, e_app, e_sRng, pad_0, sl_f, sl_t, sl_nil, add_i, sub_i, lt_i, le_i, gt_i, ge_i, neg_i, not_d, len_l, len_t, ix_l, ix_t, max2_i, min2_i, tup_l, tup_t, lst_l, lst_t, rev_l, rev_t, bool_i, bool_b, int_b, isn_n, e_chain, e_par, e_m3, List.length_cons, List.length_nil, List.replicate, List.cons_append, List.nil_append, Option.map_some, Nat.reduceAdd, Nat.reduceSub, Nat.zero_add, if_true, if_false, ite_true, ite_false, Bool.false_eq_true, reduceCtorEq, decide_true, decide_false, not_true, not_false_iff, Bool.not_true, Bool.not_false, Bool.and_true, Bool.true_and, Bool.and_false, Bool.false_and, Bool.or_true, Bool.true_or, Bool.or_false, Bool.false_or, Mi.mf_law_names_of, Mi.G_law_names_of, law_is_strand_ok hp, hst, is_tup hn, isT, h, h1]
          simp [namesL, hst, h']
      | dict _ => cases hn
      | _ => simp only [e_run, e_seq, seq_nx, seq_rt, seq_none, e_skip, e_set, e_own, nxK_some, vK_some, oK_some, e_ret, rtK_some, e_if, ifK_some, e_fVar, e_bVar, va_val, vb_val, vb_own, vb_bor, at_0, at_S, set_0, set_S, e_K, e_f1, o1_some, e_f2, o2_some, e_and, and_t, and_f, and_b, e_or, or_b, e_tOf, to_b, e_tAnd, tand_b, e_tOr, tor_b, e_tNot, not_b, e_tYes, e_fIf, fif_b, e_nil, e_cons, cons_some, e_tup, tup_some, e_lst, lst_some, e_call, call_some, e_m1, e_m2, e_sSeq, seqs_l, seqs_t, seqs_s, e_for, for_some, e_asg, tg_some, e_gN, e_gT2, e_gT3, e_frz, frz_own, e_retOwn, ch_b, e_lc, co_some, lc_some, wipe_nil, wipe_cons, end_rt, end_nx, pt_none, pt_some, int_some, e_cut, cut_l, cut_t, e_app, e_sRng, pad_0, sl_f, sl_t, sl_nil, add_i, sub_i, lt_i, le_i, gt_i, ge_i, neg_i, not_d, len_l, len_t, ix_l, ix_t, max2_i, min2_i, tup_l, tup_t, lst_l, lst_t, rev_l, rev_t, bool_i, bool_b, int_b, isn_n, e_chain, e_par, e_m3, List.length_cons, List.length_nil, List.replicate, List.cons_append, List.nil_append, Option.map_some, Nat.reduceAdd, Nat.reduceSub, Nat.zero_add, if_true, if_false, ite_true, ite_false, Bool.false_eq_true, reduceCtorEq, decide_true, decide_false, not_true, not_false_iff, Bool.not_true, Bool.not_false, Bool.and_true, Bool.true_and, Bool.and_false, Bool.false_and, Bool.or_true, Bool.true_or, Bool.or_false, Bool.false_or, Mi.mf_law_names_of, Mi.G_law_names_of, law_is_strand_ok hp, hst, is_tup hn, isT, namesL]
/-- the whole look -/
def isCordB (d : D) : Bool := tiedB d && (decide ((strP d).length ≤ 8) && ((metD ((strP d).map fun p => PyData.str p.1)).length == (strP d).length))
theorem keyOk_strs (ps : List (Str × D)) : (ps.map fun p => PyData.str p.1).all keyOk = true := by simp [keyOk]
theorem lenSet_ok {ds : List D} (h : ds.all keyOk = true) (hl : ds.length < 4000) : lenSetD (.list ds) = some (.int (metD ds).length) := by
  show (if _ = true then _ else _) = _
  rw [if_pos (by rw [h, Bool.true_and]; exact decide_eq_true hl)]
theorem beqI (a b : Nat) : ((a : Int) == (b : Int)) = (a == b) := by
  cases e : a == b
  · simp only [beq_eq_false_iff_ne, ne_eq] at e ⊢
    omega
  · simp only [beq_iff_eq] at e ⊢
    omega
theorem is_cord_ok {d : D} (hp : Pl d = true) (hd : d.depth < 24) (hs : sz d ≤ 1000000) : Mi.m_is_cord [d] = some (.bool (isCordB d)) := by
  have ht : Mi.m_is_tied_so [d] = some (.bool (tiedB d)) := tied_ok' 24 d hp hd hs
  cases h : tiedB d with
  | false =>
    simp only [e_run, e_seq, seq_nx, seq_rt, seq_none, e_skip, e_set, e_own, nxK_some, vK_some, oK_some, e_ret, rtK_some, e_if, ifK_some, e_fVar, e_bVar, va_val, vb_val, vb_own, vb_bor, at_0, at_S, set_0, set_S, e_K, e_f1, o1_some, e_f2, o2_some, e_and, and_t, and_f, and_b, e_or, or_b, e_tOf, to_b, e_tAnd, tand_b, e_tOr, tor_b, e_tNot, not_b, e_tYes, e_fIf, fif_b, e_nil, e_cons, cons_some, e_tup, tup_some, e_lst, lst_some, e_call, call_some, e_m1, e_m2, e_sSeq, seqs_l, seqs_t, seqs_s, e_for, for_some, e_asg, tg_some, e_gN, e_gT2, e_gT3, e_frz, frz_own, e_retOwn, ch_b, e_lc, co_some, lc_some, wipe_nil, wipe_cons, end_rt, end_nx, pt_none, pt_some, int_some, e_cut, cut_l, cut_t, e_app, e_sRng, pad_0, sl_f, sl_t, sl_nil, add_i, sub_i, lt_i, le_i, gt_i, ge_i, neg_i, not_d, len_l, len_t, ix_l, ix_t, max2_i, min2_i, tup_l, tup_t, lst_l, lst_t, rev_l, rev_t, bool_i, bool_b, int_b, isn_n, e_chain, e_par, e_m3, List.length_cons, List.length_nil, List.replicate, List.cons_append, List.nil_append, Option.map_some, Nat.reduceAdd, Nat.reduceSub, Nat.zero_add, if_true, if_false, ite_true, ite_false, Bool.false_eq_true, reduceCtorEq, decide_true, decide_false, not_true, not_false_iff, Bool.not_true, Bool.not_false, Bool.and_true, Bool.true_and, Bool.and_false, Bool.false_and, Bool.or_true, Bool.true_or, Bool.or_false, Bool.false_or, Mi.m_is_cord, Mi.G_is_cord, ht, h, isCordB]
  | true =>
    have hst : Mi.m_strands_of [d] = some (.list ((strP d).map encP)) := strands_ok 24 d hp h hd hs
    have hl := strP_len d
    have hc : compL (gT2 2 3) tYes (fVar 2) [.val d, .no, .no, .no] ((strP d).map encP) = some ((strP d).map fun p => .str p.1) := compL_of fun p _ => ⟨_, rfl, by simp only [e_run, e_seq, seq_nx, seq_rt, seq_none, e_skip, e_set, e_own, nxK_some, vK_some, oK_some, e_ret, rtK_some, e_if, ifK_some, e_fVar, e_bVar, va_val, vb_val, vb_own, vb_bor, at_0, at_S, set_0, set_S, e_K, e_f1, o1_some, e_f2, o2_some, e_and, and_t, and_f, and_b, e_or, or_b, e_tOf, to_b, e_tAnd, tand_b, e_tOr, tor_b, e_tNot, not_b, e_tYes, e_fIf, fif_b, e_nil, e_cons, cons_some, e_tup, tup_some, e_lst, lst_some, e_call, call_some, e_m1, e_m2, e_sSeq, seqs_l, seqs_t, seqs_s, e_for, for_some, e_asg, tg_some, e_gN, e_gT2, e_gT3, e_frz, frz_own, e_retOwn, ch_b, e_lc, co_some, lc_some, wipe_nil, wipe_cons, end_rt, end_nx, pt_none, pt_some, int_some, e_cut, cut_l, cut_t, e_app, e_sRng, pad_0, sl_f, sl_t, sl_nil, add_i, sub_i, lt_i, le_i, gt_i, ge_i, neg_i, not_d, len_l, len_t, ix_l, ix_t, max2_i, min2_i, tup_l, tup_t, lst_l, lst_t, rev_l, rev_t, bool_i, bool_b, int_b, isn_n, e_chain, e_par, e_m3, List.length_cons, List.length_nil, List.replicate, List.cons_append, List.nil_append, Option.map_some, Nat.reduceAdd, Nat.reduceSub, Nat.zero_add, if_true, if_false, ite_true, ite_false, Bool.false_eq_true, reduceCtorEq, decide_true, decide_false, not_true, not_false_iff, Bool.not_true, Bool.not_false, Bool.and_true, Bool.true_and, Bool.and_false, Bool.false_and, Bool.or_true, Bool.true_or, Bool.or_false, Bool.false_or]⟩
    have hf : fitsL (strP d).length = true := fitsL_small (by omega)
    by_cases h8 : ((strP d).length : Int) ≤ 8
    · have h8' : (strP d).length ≤ 8 := by omega
      have hm := lenSet_ok (keyOk_strs (strP d)) (by rw [List.length_map]; omega)
      simp only [e_run, e_seq, seq_nx, seq_rt, seq_none, e_skip, e_set, e_own, nxK_some, vK_some, oK_some, e_ret, rtK_some, e_if, ifK_some, e_fVar, e_bVar, va_val, vb_val, vb_own, vb_bor, at_0, at_S, set_0, set_S, e_K, e_f1, o1_some, e_f2, o2_some, e_and, and_t, and_f, and_b, e_or, or_b, e_tOf, to_b, e_tAnd, tand_b, e_tOr, tor_b, e_tNot, not_b, e_tYes, e_fIf, fif_b, e_nil, e_cons, cons_some, e_tup, tup_some, e_lst, lst_some, e_call, call_some, e_m1, e_m2, e_sSeq, seqs_l, seqs_t, seqs_s, e_for, for_some, e_asg, tg_some, e_gN, e_gT2, e_gT3, e_frz, frz_own, e_retOwn, ch_b, e_lc, co_some, lc_some, wipe_nil, wipe_cons, end_rt, end_nx, pt_none, pt_some, int_some, e_cut, cut_l, cut_t, e_app, e_sRng, pad_0, sl_f, sl_t, sl_nil, add_i, sub_i, lt_i, le_i, gt_i, ge_i, neg_i, not_d, len_l, len_t, ix_l, ix_t, max2_i, min2_i, tup_l, tup_t, lst_l, lst_t, rev_l, rev_t, bool_i, bool_b, int_b, isn_n, e_chain, e_par, e_m3, List.length_cons, List.length_nil, List.replicate, List.cons_append, List.nil_append, Option.map_some, Nat.reduceAdd, Nat.reduceSub, Nat.zero_add, if_true, if_false, ite_true, ite_false, Bool.false_eq_true, reduceCtorEq, decide_true, decide_false, not_true, not_false_iff, Bool.not_true, Bool.not_false, Bool.and_true, Bool.true_and, Bool.and_false, Bool.false_and, Bool.or_true, Bool.true_or, Bool.or_false, Bool.false_or, Mi.m_is_cord, Mi.G_is_cord, ht, h, hst, hc, hf, List.length_map, h8, hm, eq_i, isCordB, h8', beqI]
    · have h8' : ¬ (strP d).length ≤ 8 := by omega
      simp only [e_run, e_seq, seq_nx, seq_rt, seq_none, e_skip, e_set, e_own, nxK_some, vK_some, oK_some, e_ret, rtK_some, e_if, ifK_some, e_fVar, e_bVar, va_val, vb_val, vb_own, vb_bor, at_0, at_S, set_0, set_S, e_K, e_f1, o1_some, e_f2, o2_some, e_and, and_t, and_f, and_b, e_or, or_b, e_tOf, to_b, e_tAnd, tand_b, e_tOr, tor_b, e_tNot, not_b, e_tYes, e_fIf, fif_b, e_nil, e_cons, cons_some, e_tup, tup_some, e_lst, lst_some, e_call, call_some, e_m1, e_m2, e_sSeq, seqs_l, seqs_t, seqs_s, e_for, for_some, e_asg, tg_some, e_gN, e_gT2, e_gT3, e_frz, frz_own, e_retOwn, ch_b, e_lc, co_some, lc_some, wipe_nil, wipe_cons, end_rt, end_nx, pt_none, pt_some, int_some, e_cut, cut_l, cut_t, e_app, e_sRng, pad_0, sl_f, sl_t, sl_nil, add_i, sub_i, lt_i, le_i, gt_i, ge_i, neg_i, not_d, len_l, len_t, ix_l, ix_t, max2_i, min2_i, tup_l, tup_t, lst_l, lst_t, rev_l, rev_t, bool_i, bool_b, int_b, isn_n, e_chain, e_par, e_m3, List.length_cons, List.length_nil, List.replicate, List.cons_append, List.nil_append, Option.map_some, Nat.reduceAdd, Nat.reduceSub, Nat.zero_add, if_true, if_false, ite_true, ite_false, Bool.false_eq_true, reduceCtorEq, decide_true, decide_false, not_true, not_false_iff, Bool.not_true, Bool.not_false, Bool.and_true, Bool.true_and, Bool.and_false, Bool.false_and, Bool.or_true, Bool.true_or, Bool.or_false, Bool.false_or, Mi.m_is_cord, Mi.G_is_cord, ht, h, hst, hc, hf, List.length_map, h8, isCordB, h8']
theorem inL_none : ∀ {ds : List D}, PyData.none ∈ ds → inL .none ds = true
  | z :: ds, h => by
    show (PyData.eqv z .none || inL .none ds) = true
    rcases List.mem_cons.mp h with rfl | h
    · rfl
    · rw [inL_none h, Bool.or_true]
theorem inL_strs (ps : List (Str × D)) : inL .none (ps.map fun p => PyData.str p.1) = false := by
  unfold inL
  simp [PyData.eqv]
theorem flat_like {ds : List D} (h : ∀ z ∈ ds, nameLike z = true) : ds.all flatD = true := by
  refine List.all_eq_true.mpr fun z hz => ?_
  have := h z hz
  cases z <;> first | rfl | cases this
theorem law_is_cord_ok {d : D} (hp : Pl d = true) (hd : d.depth < 24) (hs : sz d ≤ 1000000) : Mi.m_law_is_cord [d] = some (.bool (isCordB d)) := by
  have hN : Mi.m_law_names_of [d] = some (.list (namesL d)) := law_names_ok 24 d hp hd hs
  have like := namesL_like d
  have hin : notInD .none (.list (namesL d)) = some (.bool (!inL .none (namesL d))) := by
    unfold notInD inB
    simp only [flat_like like, flatD, Bool.true_and, Bool.true_or, if_true, Option.map_some]
  have T := names_tied d
  cases h : tiedB d with
  | false =>
    have h1 := inL_none (T.2 h)
    simp only [e_run, e_seq, seq_nx, seq_rt, seq_none, e_skip, e_set, e_own, nxK_some, vK_some, oK_some, e_ret, rtK_some, e_if, ifK_some, e_fVar, e_bVar, va_val, vb_val, vb_own, vb_bor, at_0, at_S, set_0, set_S, e_K, e_f1, o1_some, e_f2, o2_some, e_and, and_t, and_f, and_b, e_or, or_b, e_tOf, to_b, e_tAnd, tand_b, e_tOr, tor_b, e_tNot, not_b, e_tYes, e_fIf, fif_b, e_nil, e_cons, cons_some, e_tup, tup_some, e_lst, lst_some, e_call, call_some, e_m1, e_m2, e_sSeq, seqs_l, seqs_t, seqs_s, e_for, for_some, e_asg, tg_some, e_gN, e_gT2, e_gT3, e_frz, frz_own, e_retOwn, ch_b, e_lc, co_some, lc_some, wipe_nil, wipe_cons, end_rt, end_nx, pt_none, pt_some, int_some, e_cut, cut_l, cut_t, e_app, e_sRng, pad_0, sl_f, sl_t, sl_nil, add_i, sub_i, lt_i, le_i, gt_i, ge_i, neg_i, not_d, len_l, len_t, ix_l, ix_t, max2_i, min2_i, tup_l, tup_t, lst_l, lst_t, rev_l, rev_t, bool_i, bool_b, int_b, isn_n, e_chain, e_par, e_m3, List.length_cons, List.length_nil, List.replicate, List.cons_append, List.nil_append, Option.map_some, Nat.reduceAdd, Nat.reduceSub, Nat.zero_add, if_true, if_false, ite_true, ite_false, Bool.false_eq_true, reduceCtorEq, decide_true, decide_false, not_true, not_false_iff, Bool.not_true, Bool.not_false, Bool.and_true, Bool.true_and, Bool.and_false, Bool.false_and, Bool.or_true, Bool.true_or, Bool.or_false, Bool.false_or, Mi.m_law_is_cord, Mi.G_law_is_cord, hN, hin, h1, isCordB, h]
  | true =>
    have h1 := T.1 h
    have hno : inL .none (namesL d) = false := by rw [h1]; exact inL_strs _
    have hl : (namesL d).length = (strP d).length := by rw [h1, List.length_map]
    by_cases h8 : ((strP d).length : Int) ≤ 8
    · have h8' : (strP d).length ≤ 8 := by omega
      have hm : lenSetD (.list (namesL d)) = some (.int (metD ((strP d).map fun p => PyData.str p.1)).length) := by
        rw [h1]
        exact lenSet_ok (keyOk_strs (strP d)) (by rw [List.length_map]; omega)
      simp only [e_run, e_seq, seq_nx, seq_rt, seq_none, e_skip, e_set, e_own, nxK_some, vK_some, oK_some, e_ret, rtK_some, e_if, ifK_some, e_fVar, e_bVar, va_val, vb_val, vb_own, vb_bor, at_0, at_S, set_0, set_S, e_K, e_f1, o1_some, e_f2, o2_some, e_and, and_t, and_f, and_b, e_or, or_b, e_tOf, to_b, e_tAnd, tand_b, e_tOr, tor_b, e_tNot, not_b, e_tYes, e_fIf, fif_b, e_nil, e_cons, cons_some, e_tup, tup_some, e_lst, lst_some, e_call, call_some, e_m1, e_m2, e_sSeq, seqs_l, seqs_t, seqs_s, e_for, for_some, e_asg, tg_some, e_gN, e_gT2, e_gT3, e_frz, frz_own, e_retOwn, ch_b, e_lc, co_some, lc_some, wipe_nil, wipe_cons, end_rt, end_nx, pt_none, pt_some, int_some, e_cut, cut_l, cut_t, e_app, e_sRng, pad_0, sl_f, sl_t, sl_nil, add_i, sub_i, lt_i, le_i, gt_i, ge_i, neg_i, not_d, len_l, len_t, ix_l, ix_t, max2_i, min2_i, tup_l, tup_t, lst_l, lst_t, rev_l, rev_t, bool_i, bool_b, int_b, isn_n, e_chain, e_par, e_m3, List.length_cons, List.length_nil, List.replicate, List.cons_append, List.nil_append, Option.map_some, Nat.reduceAdd, Nat.reduceSub, Nat.zero_add, if_true, if_false, ite_true, ite_false, Bool.false_eq_true, reduceCtorEq, decide_true, decide_false, not_true, not_false_iff, Bool.not_true, Bool.not_false, Bool.and_true, Bool.true_and, Bool.and_false, Bool.false_and, Bool.or_true, Bool.true_or, Bool.or_false, Bool.false_or, Mi.m_law_is_cord, Mi.G_law_is_cord, hN, hin, hno, hl, h8, hm, eq_i, isCordB, h, h8', beqI]
    · have h8' : ¬ (strP d).length ≤ 8 := by omega
      simp only [e_run, e_seq, seq_nx, seq_rt, seq_none, e_skip, e_set, e_own, nxK_some, vK_some, oK_some, e_ret, rtK_some, e_if, ifK_some, e_fVar, e_bVar, va_val, vb_val, vb_own, vb_bor, at_0, at_S, set_0, set_S, e_K, e_f1, o1_some, e_f2, o2_some, e_and, and_t, and_f, and_b, e_or, or_b, e_tOf, to_b, e_tAnd, tand_b, e_tOr, tor_b, e_tNot, not_b, e_tYes, e_fIf, fif_b, e_nil, e_cons, cons_some, e_tup, tup_some, e_lst, lst_some, e_call, call_some, e_m1, e_m2, e_sSeq, seqs_l, seqs_t, seqs_s, e_for, for_some, e_asg, tg_some, e_gN, e_gT2, e_gT3, e_frz, frz_own, e_retOwn, ch_b, e_lc, co_some, lc_some, wipe_nil, wipe_cons, end_rt, end_nx, pt_none, pt_some, int_some, e_cut, cut_l, cut_t, e_app, e_sRng, pad_0, sl_f, sl_t, sl_nil, add_i, sub_i, lt_i, le_i, gt_i, ge_i, neg_i, not_d, len_l, len_t, ix_l, ix_t, max2_i, min2_i, tup_l, tup_t, lst_l, lst_t, rev_l, rev_t, bool_i, bool_b, int_b, isn_n, e_chain, e_par, e_m3, List.length_cons, List.length_nil, List.replicate, List.cons_append, List.nil_append, Option.map_some, Nat.reduceAdd, Nat.reduceSub, Nat.zero_add, if_true, if_false, ite_true, ite_false, Bool.false_eq_true, reduceCtorEq, decide_true, decide_false, not_true, not_false_iff, Bool.not_true, Bool.not_false, Bool.and_true, Bool.true_and, Bool.and_false, Bool.false_and, Bool.or_true, Bool.true_or, Bool.or_false, Bool.false_or, Mi.m_law_is_cord, Mi.G_law_is_cord, hN, hin, hno, hl, h8, isCordB, h, h8']
end Fact
set_option maxRecDepth 100000
/-! Bending a thing at any place. -/
namespace Fact
open PySem Pu
def pathD (p : List Nat) : D := .tuple (p.map fun (i : Nat) => PyData.int (i : Int))
def kids : D → List D
  | .list ds => ds
  | .tuple ds => ds
  | _ => []
def vp : List Nat → D → Prop
  | [], _ => True
  | i :: p, d => ∃ x, (kids d)[i]? = some x ∧ vp p x
theorem forL_enum {tg : TgF} {body : G} {I : Nat → Rho → Prop} : ∀ {ds : List D} {k : Nat} {ρ : Rho}, I k ρ →
    (∀ (j : Nat) (x : D) (ρ : Rho), ds[j]? = some x → I (k + j) ρ → ∃ ρ1 ρ2, tg (.tuple [.int ((k + j : Nat) : Int), x]) ρ = some ρ1 ∧ body ρ1 = some (.nx ρ2) ∧ I (k + j + 1) ρ2) →
    ∃ ρ', forL tg body (numFrom k ds) ρ = some (.nx ρ') ∧ I (k + ds.length) ρ'
  | [], k, ρ, h, _ => ⟨ρ, rfl, h⟩
  | d :: ds, k, ρ, h, st => by
    obtain ⟨ρ1, ρ2, h1, h2, h3⟩ := st 0 d ρ rfl h
    obtain ⟨ρ', h4, h5⟩ := forL_enum (ds := ds) (k := k + 1) h3 fun j x ρ e hI => by
      have := st (j + 1) x ρ e (by rw [show k + (j + 1) = k + 1 + j by omega]; exact hI)
      rw [show k + (j + 1) = k + 1 + j by omega] at this
      exact this
    refine ⟨ρ', ?_, by rw [show k + (d :: ds).length = k + 1 + ds.length by simp; omega]; exact h5⟩
    show (tg (.tuple [.int ((k : Nat) : Int), d]) ρ).bind _ = _
    rw [show ((k : Nat) : Int) = ((k + 0 : Nat) : Int) by simp, h1, Option.bind_some, h2]
    exact h4
def enK : Option D → Option (List D)
  | some (.list ds) => some (numFrom 0 ds)
  | some (.tuple ds) => some (numFrom 0 ds)
  | some (.str x) => some (numFrom 0 (x.cps.toList.map fun c => .str ⟨#[c]⟩))
  | _ => none
theorem e_enum {a : F1} {ρ : Rho} : sEnum a ρ = enK (a ρ) := nr (by unfold sEnum enK; rcases a ρ with _ | (_ | (_ | _) | _ | _ | _ | _ | _) <;> rfl)
theorem en_l {ds : List D} : enK (some (.list ds)) = some (numFrom 0 ds) := nr rfl
theorem en_t {ds : List D} : enK (some (.tuple ds)) = some (numFrom 0 ds) := nr rfl
theorem szs_take : ∀ {ds : List D} {j : Nat} {x : D}, ds[j]? = some x → szs (ds.take (j + 1)) = szs (ds.take j) + sz x
  | d :: ds, 0, x, h => by cases h; simp [szs]
  | d :: ds, j + 1, x, h => by have := szs_take (ds := ds) (j := j) h; simp only [List.take_succ_cons, szs] at this ⊢; omega
theorem kids_of {d : D} (h : isT .seq d = true) : d = .list (kids d) ∨ d = .tuple (kids d) := by cases d <;> first | exact Or.inl rfl | exact Or.inr rfl | cases h
theorem sz_kids {d : D} (h : isT .seq d = true) : sz d = szs (kids d) + 1 := by cases d <;> first | rfl | cases h
theorem depth_kids {d : D} (h : isT .seq d = true) : d.depth = PyData.depthAll (kids d) + 1 := by cases d <;> first | rfl | cases h
theorem Pl_kids {d : D} (hp : Pl d = true) : ∀ x ∈ kids d, Pl x = true := by
  cases d with
  | list ds => exact Pls_iff.mp (by simpa [Pl, kids] using hp)
  | tuple ds => exact Pls_iff.mp (by simpa [Pl, kids] using hp)
  | _ => exact fun x hx => by cases hx
theorem places_ok : ∀ (n : Nat) (d : D), Pl d = true → d.depth < n → d.depth < 100 → sz d ≤ 1000000 →
    ∃ ps : List (List Nat), Mi.mf_law_places n [d] = some (.list (ps.map pathD)) ∧ ps ≠ [] ∧ ps.length ≤ sz d ∧ ∀ p ∈ ps, vp p d ∧ p.length ≤ d.depth
  | 0, d, _, h, _, _ => absurd h (Nat.not_lt_zero _)
  | n + 1, d, hp, hd, hd2, hs => by
    have hn := noDict_Pl hp
    cases hq : isT .seq d with
    | false =>
      refine ⟨[[]], ?_, by simp, sz_pos d, fun p h => by rw [List.mem_singleton.mp h]; exact ⟨trivial, Nat.zero_le _⟩⟩
      simp only [e_run, e_seq, seq_nx, seq_rt, seq_none, e_skip, e_set, e_own, nxK_some, vK_some, oK_some, e_ret, rtK_some, e_if, ifK_some, e_fVar, e_bVar, va_val, vb_val, vb_own, vb_bor, at_0, at_S, set_0, set_S, e_K, e_f1, o1_some, e_f2, o2_some, e_and, and_t, and_f, and_b, e_or, or_b, e_tOf, to_b, e_tAnd, tand_b, e_tOr, tor_b, e_tNot, not_b, e_tYes, e_fIf, fif_b, e_nil, e_cons, cons_some, e_tup, tup_some, e_lst, lst_some, e_call, call_some, e_m1, e_m2, e_sSeq, seqs_l, seqs_t, seqs_s, e_for, for_some, e_asg, tg_some, e_gN, e_gT2, e_gT3, e_frz, frz_own, e_retOwn, ch_b, e_lc, co_some, lc_some, wipe_nil, wipe_cons, end_rt, end_nx, pt_none, pt_some, int_some, e_cut, cut_l, cut_t, e_app, e_sRng, pad_0, sl_f, sl_t, sl_nil, add_i, sub_i, lt_i, le_i, gt_i, ge_i, neg_i, not_d, len_l, len_t, ix_l, ix_t, max2_i, min2_i, tup_l, tup_t, lst_l, lst_t, rev_l, rev_t, bool_i, bool_b, int_b, isn_n, e_chain, e_par, e_m3, List.length_cons, List.length_nil, List.replicate, List.cons_append, List.nil_append, Option.map_some, Nat.reduceAdd, Nat.reduceSub, Nat.zero_add, if_true, if_false, ite_true, ite_false, Bool.false_eq_true, reduceCtorEq, decide_true, decide_false, not_true, not_false_iff, Bool.not_true, Bool.not_false, Bool.and_true, Bool.true_and, Bool.and_false, Bool.false_and, Bool.or_true, Bool.true_or, Bool.or_false, Bool.false_or, Mi.mf_law_places, Mi.G_law_places, is_seq hn, hq]
      rfl
    | true =>
      have hk := sz_kids hq
      have hdk := depth_kids hq
      let I : Nat → Rho → Prop := fun j ρ => ∃ (ps : List (List Nat)) (a b c : Slot), ps ≠ [] ∧ ps.length ≤ 1 + szs ((kids d).take j) ∧ (∀ p ∈ ps, vp p d ∧ p.length ≤ d.depth) ∧ ρ = [.val d, .val (.list (ps.map pathD)), a, b, c]
      obtain ⟨ρ', h1, ps, a, b, c, g1, g2, g3, rfl⟩ := forL_enum (tg := gT2 2 3) (body := Mi.B_law_places_1 (Mi.mf_law_places n)) (I := I) (ds := kids d) (k := 0) (ρ := [.val d, .val (.list [.tuple []]), .no, .no, .no])
        ⟨[[]], _, _, _, by simp, by simp, fun p h => by rw [List.mem_singleton.mp h]; exact ⟨trivial, Nat.zero_le _⟩, rfl⟩ fun j x ρ hx ⟨ps, a, b, c, g1, g2, g3, e⟩ => by
          subst e
          have hm := List.mem_of_getElem? hx
          have h3 := sz_mem hm
          have h4 := depth_mem hm
          obtain ⟨qs, q1, q2, q3, q4⟩ := places_ok n x (Pl_kids hp x hm) (by omega) (by omega) (by omega)
          have h5 := szs_take hx
          have hz : szs ((kids d).take (j + 1)) ≤ szs (kids d) := by
            have := szs_app ((kids d).take (j + 1)) ((kids d).drop (j + 1))
            rw [List.take_append_drop] at this
            omega
          rw [Nat.zero_add] at g2
          have hc : compL (gN 4) tYes (f2 addD (fTup [fVar 2]) (bVar 4)) [.val d, .val (.list (ps.map pathD)), .val (.int (j : Int)), .val x, .no] (qs.map pathD) = some (qs.map fun p => pathD (j :: p)) := compL_of fun p hpm => ⟨_, rfl, by
            have := (q4 p hpm).2
            have ha := add_t (x := [.int (j : Int)]) (y := p.map fun (i : Nat) => PyData.int (i : Int)) (by
              show _ ≤ 2 ^ 24
              simp only [List.length_singleton, List.length_map]; omega)
            simp only [e_run, e_seq, seq_nx, seq_rt, seq_none, e_skip, e_set, e_own, nxK_some, vK_some, oK_some, e_ret, rtK_some, e_if, ifK_some, e_fVar, e_bVar, va_val, vb_val, vb_own, vb_bor, at_0, at_S, set_0, set_S, e_K, e_f1, o1_some, e_f2, o2_some, e_and, and_t, and_f, and_b, e_or, or_b, e_tOf, to_b, e_tAnd, tand_b, e_tOr, tor_b, e_tNot, not_b, e_tYes, e_fIf, fif_b, e_nil, e_cons, cons_some, e_tup, tup_some, e_lst, lst_some, e_call, call_some, e_m1, e_m2, e_sSeq, seqs_l, seqs_t, seqs_s, e_for, for_some, e_asg, tg_some, e_gN, e_gT2, e_gT3, e_frz, frz_own, e_retOwn, ch_b, e_lc, co_some, lc_some, wipe_nil, wipe_cons, end_rt, end_nx, pt_none, pt_some, int_some, e_cut, cut_l, cut_t, e_app, e_sRng, pad_0, sl_f, sl_t, sl_nil, add_i, sub_i, lt_i, le_i, gt_i, ge_i, neg_i, not_d, len_l, len_t, ix_l, ix_t, max2_i, min2_i, tup_l, tup_t, lst_l, lst_t, rev_l, rev_t, bool_i, bool_b, int_b, isn_n, e_chain, e_par, e_m3, List.length_cons, List.length_nil, List.replicate, List.cons_append, List.nil_append, Option.map_some, Nat.reduceAdd, Nat.reduceSub, Nat.zero_add, if_true, if_false, ite_true, ite_false, Bool.false_eq_true, reduceCtorEq, decide_true, decide_false, not_true, not_false_iff, Bool.not_true, Bool.not_false, Bool.and_true, Bool.true_and, Bool.and_false, Bool.false_and, Bool.or_true, Bool.true_or, Bool.or_false, Bool.false_or, pathD, ha]
            simp⟩
          have hf : fitsL qs.length = true := fitsL_small (by omega)
          have ha := add_l (x := ps.map pathD) (y := qs.map fun p => pathD (j :: p)) (by show _ ≤ 2 ^ 24; rw [List.length_map, List.length_map]; omega)
          rw [show 0 + j = j by omega]
          refine ⟨_, [.val d, .val (.list (ps.map pathD ++ qs.map fun p => pathD (j :: p))), .val (.int (j : Int)), .val x, c], rfl, ?_, ps ++ qs.map (fun p => j :: p), .val (.int (j : Int)), .val x, c, by simp [g1], ?_, ?_, ?_⟩
          · simp only [e_run, e_seq, seq_nx, seq_rt, seq_none, e_skip, e_set, e_own, nxK_some, vK_some, oK_some, e_ret, rtK_some, e_if, ifK_some, e_fVar, e_bVar, va_val, vb_val, vb_own, vb_bor, at_0, at_S, set_0, set_S, e_K, e_f1, o1_some, e_f2, o2_some, e_and, and_t, and_f, and_b, e_or, or_b, e_tOf, to_b, e_tAnd, tand_b, e_tOr, tor_b, e_tNot, not_b, e_tYes, e_fIf, fif_b, e_nil, e_cons, cons_some, e_tup, tup_some, e_lst, lst_some, e_call, call_some, e_m1, e_m2, e_sSeq, seqs_l, seqs_t, seqs_s, e_for, for_some, e_asg, tg_some, e_gN, e_gT2, e_gT3, e_frz, frz_own, e_retOwn, ch_b, e_lc, co_some, lc_some, wipe_nil, wipe_cons, end_rt, end_nx, pt_none, pt_some, int_some, e_cut, cut_l, cut_t, e_app, e_sRng, pad_0, sl_f, sl_t, sl_nil, add_i, sub_i, lt_i, le_i, gt_i, ge_i, neg_i, not_d, len_l, len_t, ix_l, ix_t, max2_i, min2_i, tup_l, tup_t, lst_l, lst_t, rev_l, rev_t, bool_i, bool_b, int_b, isn_n, e_chain, e_par, e_m3, List.length_cons, List.length_nil, List.replicate, List.cons_append, List.nil_append, Option.map_some, Nat.reduceAdd, Nat.reduceSub, Nat.zero_add, if_true, if_false, ite_true, ite_false, Bool.false_eq_true, reduceCtorEq, decide_true, decide_false, not_true, not_false_iff, Bool.not_true, Bool.not_false, Bool.and_true, Bool.true_and, Bool.and_false, Bool.false_and, Bool.or_true, Bool.true_or, Bool.or_false, Bool.false_or, Mi.B_law_places_1, q1, hc, List.length_map, hf, ha]
          · simp only [List.length_append, List.length_map]
            omega
          · intro p h
            rcases List.mem_append.mp h with h | h
            · exact g3 p h
            · obtain ⟨q, hq1, rfl⟩ := List.mem_map.mp h
              obtain ⟨w1, w2⟩ := q4 q hq1
              exact ⟨⟨x, hx, w1⟩, by simp only [List.length_cons]; omega⟩
          · simp [List.map_append, Function.comp_def]
      rw [Nat.zero_add, List.take_length] at g2
      refine ⟨ps, ?_, g1, by omega, g3⟩
      have hen : enK (some d) = some (numFrom 0 (kids d)) := by rcases kids_of hq with e | e <;> rw [e] <;> rfl
      simp only [e_run, e_seq, seq_nx, seq_rt, seq_none, e_skip, e_set, e_own, nxK_some, vK_some, oK_some, e_ret, rtK_some, e_if, ifK_some, e_fVar, e_bVar, va_val, vb_val, vb_own, vb_bor, at_0, at_S, set_0, set_S, e_K, e_f1, o1_some, e_f2, o2_some, e_and, and_t, and_f, and_b, e_or, or_b, e_tOf, to_b, e_tAnd, tand_b, e_tOr, tor_b, e_tNot, not_b, e_tYes, e_fIf, fif_b, e_nil, e_cons, cons_some, e_tup, tup_some, e_lst, lst_some, e_call, call_some, e_m1, e_m2, e_sSeq, seqs_l, seqs_t, seqs_s, e_for, for_some, e_asg, tg_some, e_gN, e_gT2, e_gT3, e_frz, frz_own, e_retOwn, ch_b, e_lc, co_some, lc_some, wipe_nil, wipe_cons, end_rt, end_nx, pt_none, pt_some, int_some, e_cut, cut_l, cut_t, e_app, e_sRng, pad_0, sl_f, sl_t, sl_nil, add_i, sub_i, lt_i, le_i, gt_i, ge_i, neg_i, not_d, len_l, len_t, ix_l, ix_t, max2_i, min2_i, tup_l, tup_t, lst_l, lst_t, rev_l, rev_t, bool_i, bool_b, int_b, isn_n, e_chain, e_par, e_m3, List.length_cons, List.length_nil, List.replicate, List.cons_append, List.nil_append, Option.map_some, Nat.reduceAdd, Nat.reduceSub, Nat.zero_add, if_true, if_false, ite_true, ite_false, Bool.false_eq_true, reduceCtorEq, decide_true, decide_false, not_true, not_false_iff, Bool.not_true, Bool.not_false, Bool.and_true, Bool.true_and, Bool.and_false, Bool.false_and, Bool.or_true, Bool.true_or, Bool.or_false, Bool.false_or, Mi.mf_law_places, Mi.G_law_places, is_seq hn, hq, e_enum, hen, h1]
/-- what bending may make of a thing -/
structure Near (d d' : D) : Prop where
  pl : Pl d' = true
  sz : sz d' ≤ 2 * sz d + 5
  dp : d'.depth ≤ d.depth + 1
theorem at_mod {L : List D} {n : Int} (h : L ≠ []) : ∃ x ∈ L, modD (.int n) (.int L.length) = some (.int (n % L.length)) ∧ L2.atI L (n % L.length) = some x := by
  have hl : (0 : Int) < L.length := by have := List.length_pos_iff.mpr h; omega
  obtain ⟨x, h1, h2⟩ := atI_mem (xs := L) (i := n % L.length) (Int.emod_nonneg _ (by omega)) (Int.emod_lt_of_pos _ hl)
  exact ⟨x, h1, mod_ok hl, h2⟩
theorem szs_rev (ds : List D) : szs ds.reverse = szs ds := by
  induction ds with
  | nil => rfl
  | cons d ds ih => rw [List.reverse_cons, szs_app, ih]; simp [szs]; omega
theorem dAll_app (a b : List D) : PyData.depthAll (a ++ b) = max (PyData.depthAll a) (PyData.depthAll b) := by
  induction a with
  | nil => simp [PyData.depthAll]
  | cons d a ih => simp only [List.cons_append, PyData.depthAll, ih]; omega
theorem dAll_rev (ds : List D) : PyData.depthAll ds.reverse = PyData.depthAll ds := by
  induction ds with
  | nil => rfl
  | cons d ds ih => rw [List.reverse_cons, dAll_app, ih]; simp [PyData.depthAll]; omega
theorem Pls_rev (ds : List D) (h : Pls ds = true) : Pls ds.reverse = true := Pls_iff.mpr fun d m => Pls_iff.mp h d (List.mem_reverse.mp m)
def others (E : Int) (d : D) : List D := [.none, .bool true, .bool false, .int 7, .int (0 - 1), .int E, .str "0", .str "", .tuple [], .list [], .tuple [d], .list [d], .tuple [.int 0], .tuple [.int 1, .int 0], .int 1, .int 0]
theorem others_near (E : Int) (d : D) (hp : Pl d = true) : ∀ x ∈ others E d, Near d x := by
  have := sz_pos d
  intro x hx
  simp only [others, List.mem_cons, List.not_mem_nil, or_false] at hx
  have p0 : Pl (.str "0") = true := by decide
  have p1 : Pl (.str "") = true := by decide
  rcases hx with rfl | rfl | rfl | rfl | rfl | rfl | rfl | rfl | rfl | rfl | rfl | rfl | rfl | rfl | rfl | rfl
  all_goals constructor
  all_goals first
    | exact p0
    | exact p1
    | (simp only [Pl, Pls, hp, Bool.and_true]; done)
    | (simp only [Pl, Pls]; done)
    | (simp only [sz, szs]; omega)
    | (simp only [PyData.depth, PyData.depthAll]; omega)
theorem other_ok {d : D} {dr : List Int} (hp : Pl d = true) (hl : 2 ≤ dr.length) : ∃ d', Mi.m_law_other [d, nums dr] = some d' ∧ Near d d' := by
  have hn := noDict_Pl hp
  obtain ⟨E, hE⟩ : ∃ E : Int, powD (.int 10) (.int 39) = some (.int E) := ⟨_, pow_ok (by decide) (by decide) (by decide)⟩
  obtain ⟨y, _, _, hy⟩ := nums_at (ns := dr) (i := 1) (by omega) (by omega)
  have hz := sz_pos d
  have fin : ∀ L : List D, L ≠ [] → (∀ x ∈ L, Near d x) → ∃ d', o2K ixD (some (.list L)) (modD (.int y) (.int L.length)) = some d' ∧ Near d d' := fun L h0 h => by
    obtain ⟨x, h1, h2, h3⟩ := at_mod (n := y) h0
    exact ⟨x, by simp only [e_run, e_seq, seq_nx, seq_rt, seq_none, e_skip, e_set, e_own, nxK_some, vK_some, oK_some, e_ret, rtK_some, e_if, ifK_some, e_fVar, e_bVar, va_val, vb_val, vb_own, vb_bor, at_0, at_S, set_0, set_S, e_K, e_f1, o1_some, e_f2, o2_some, e_and, and_t, and_f, and_b, e_or, or_b, e_tOf, to_b, e_tAnd, tand_b, e_tOr, tor_b, e_tNot, not_b, e_tYes, e_fIf, fif_b, e_nil, e_cons, cons_some, e_tup, tup_some, e_lst, lst_some, e_call, call_some, e_m1, e_m2, e_sSeq, seqs_l, seqs_t, seqs_s, e_for, for_some, e_asg, tg_some, e_gN, e_gT2, e_gT3, e_frz, frz_own, e_retOwn, ch_b, e_lc, co_some, lc_some, wipe_nil, wipe_cons, end_rt, end_nx, pt_none, pt_some, int_some, e_cut, cut_l, cut_t, e_app, e_sRng, pad_0, sl_f, sl_t, sl_nil, add_i, sub_i, lt_i, le_i, gt_i, ge_i, neg_i, not_d, len_l, len_t, ix_l, ix_t, max2_i, min2_i, tup_l, tup_t, lst_l, lst_t, rev_l, rev_t, bool_i, bool_b, int_b, isn_n, e_chain, e_par, e_m3, List.length_cons, List.length_nil, List.replicate, List.cons_append, List.nil_append, Option.map_some, Nat.reduceAdd, Nat.reduceSub, Nat.zero_add, if_true, if_false, ite_true, ite_false, Bool.false_eq_true, reduceCtorEq, decide_true, decide_false, not_true, not_false_iff, Bool.not_true, Bool.not_false, Bool.and_true, Bool.true_and, Bool.and_false, Bool.false_and, Bool.or_true, Bool.true_or, Bool.or_false, Bool.false_or, h2, h3], h x h1⟩
  have base : addD (.list []) (.list (others E d)) = some (.list (others E d)) := add_l (show _ ≤ 2 ^ 24 by simp [others])
  cases d with
  | int i =>
    obtain ⟨L, hL⟩ : ∃ L : List D, L = [.int (i + 1), .int (i - 1), .bool (i != 0), .int (i + 1), .int (i - 1), .bool (i != 0)] ++ others E (.int i) := ⟨_, rfl⟩
    have ha : addD (.list [.int (i + 1), .int (i - 1), .bool (i != 0), .int (i + 1), .int (i - 1), .bool (i != 0)]) (.list (others E (.int i))) = some (.list L) := by rw [hL]; exact add_l (show _ ≤ 2 ^ 24 by simp [others])
    obtain ⟨d', h1, h2⟩ := fin L (by simp [hL]) fun x hx => by
      rw [hL] at hx
      rcases List.mem_append.mp hx with h | h
      · simp only [List.mem_cons, List.not_mem_nil, or_false] at h
        rcases h with rfl | rfl | rfl | rfl | rfl | rfl <;> exact ⟨rfl, by simp [sz], by simp [PyData.depth]⟩
      · exact others_near E _ hp x h
    refine ⟨d', ?_, h2⟩
    simp only [others] at ha
    simp only [e_run, e_seq, seq_nx, seq_rt, seq_none, e_skip, e_set, e_own, nxK_some, vK_some, oK_some, e_ret, rtK_some, e_if, ifK_some, e_fVar, e_bVar, va_val, vb_val, vb_own, vb_bor, at_0, at_S, set_0, set_S, e_K, e_f1, o1_some, e_f2, o2_some, e_and, and_t, and_f, and_b, e_or, or_b, e_tOf, to_b, e_tAnd, tand_b, e_tOr, tor_b, e_tNot, not_b, e_tYes, e_fIf, fif_b, e_nil, e_cons, cons_some, e_tup, tup_some, e_lst, lst_some, e_call, call_some, e_m1, e_m2, e_sSeq, seqs_l, seqs_t, seqs_s, e_for, for_some, e_asg, tg_some, e_gN, e_gT2, e_gT3, e_frz, frz_own, e_retOwn, ch_b, e_lc, co_some, lc_some, wipe_nil, wipe_cons, end_rt, end_nx, pt_none, pt_some, int_some, e_cut, cut_l, cut_t, e_app, e_sRng, pad_0, sl_f, sl_t, sl_nil, add_i, sub_i, lt_i, le_i, gt_i, ge_i, neg_i, not_d, len_l, len_t, ix_l, ix_t, max2_i, min2_i, tup_l, tup_t, lst_l, lst_t, rev_l, rev_t, bool_i, bool_b, int_b, isn_n, e_chain, e_par, e_m3, List.length_cons, List.length_nil, List.replicate, List.cons_append, List.nil_append, Option.map_some, Nat.reduceAdd, Nat.reduceSub, Nat.zero_add, if_true, if_false, ite_true, ite_false, Bool.false_eq_true, reduceCtorEq, decide_true, decide_false, not_true, not_false_iff, Bool.not_true, Bool.not_false, Bool.and_true, Bool.true_and, Bool.and_false, Bool.false_and, Bool.or_true, Bool.true_or, Bool.or_false, Bool.false_or, Mi.m_law_other, Mi.G_law_other, hE, is_int hn, is_bool hn, is_seq hn, isT, ha, nums, hy, h1]
  | list ds =>
    obtain ⟨L, hL⟩ : ∃ L : List D, L = [.list ds, .tuple ds, .tuple ds.reverse, .list ds] ++ others E (.list ds) := ⟨_, rfl⟩
    have ha : addD (.list [.list ds, .tuple ds, .tuple ds.reverse, .list ds]) (.list (others E (.list ds))) = some (.list L) := by rw [hL]; exact add_l (show _ ≤ 2 ^ 24 by simp [others])
    have hpl : Pls ds = true := by simpa [Pl] using hp
    obtain ⟨d', h1, h2⟩ := fin L (by simp [hL]) fun x hx => by
      rw [hL] at hx
      rcases List.mem_append.mp hx with h | h
      · simp only [List.mem_cons, List.not_mem_nil, or_false] at h
        rcases h with rfl | rfl | rfl | rfl <;> exact ⟨by simp [Pl, hpl, Pls_rev], by simp [sz, szs_rev]; try omega, by simp [PyData.depth, dAll_rev]⟩
      · exact others_near E _ hp x h
    refine ⟨d', ?_, h2⟩
    simp only [others] at ha
    simp only [e_run, e_seq, seq_nx, seq_rt, seq_none, e_skip, e_set, e_own, nxK_some, vK_some, oK_some, e_ret, rtK_some, e_if, ifK_some, e_fVar, e_bVar, va_val, vb_val, vb_own, vb_bor, at_0, at_S, set_0, set_S, e_K, e_f1, o1_some, e_f2, o2_some, e_and, and_t, and_f, and_b, e_or, or_b, e_tOf, to_b, e_tAnd, tand_b, e_tOr, tor_b, e_tNot, not_b, e_tYes, e_fIf, fif_b, e_nil, e_cons, cons_some, e_tup, tup_some, e_lst, lst_some, e_call, call_some, e_m1, e_m2, e_sSeq, seqs_l, seqs_t, seqs_s, e_for, for_some, e_asg, tg_some, e_gN, e_gT2, e_gT3, e_frz, frz_own, e_retOwn, ch_b, e_lc, co_some, lc_some, wipe_nil, wipe_cons, end_rt, end_nx, pt_none, pt_some, int_some, e_cut, cut_l, cut_t, e_app, e_sRng, pad_0, sl_f, sl_t, sl_nil, add_i, sub_i, lt_i, le_i, gt_i, ge_i, neg_i, not_d, len_l, len_t, ix_l, ix_t, max2_i, min2_i, tup_l, tup_t, lst_l, lst_t, rev_l, rev_t, bool_i, bool_b, int_b, isn_n, e_chain, e_par, e_m3, List.length_cons, List.length_nil, List.replicate, List.cons_append, List.nil_append, Option.map_some, Nat.reduceAdd, Nat.reduceSub, Nat.zero_add, if_true, if_false, ite_true, ite_false, Bool.false_eq_true, reduceCtorEq, decide_true, decide_false, not_true, not_false_iff, Bool.not_true, Bool.not_false, Bool.and_true, Bool.true_and, Bool.and_false, Bool.false_and, Bool.or_true, Bool.true_or, Bool.or_false, Bool.false_or, Mi.m_law_other, Mi.G_law_other, hE, is_int hn, is_bool hn, is_seq hn, isT, ha, nums, hy, h1]
  | tuple ds =>
    obtain ⟨L, hL⟩ : ∃ L : List D, L = [.list ds, .tuple ds, .tuple ds.reverse, .list ds] ++ others E (.tuple ds) := ⟨_, rfl⟩
    have ha : addD (.list [.list ds, .tuple ds, .tuple ds.reverse, .list ds]) (.list (others E (.tuple ds))) = some (.list L) := by rw [hL]; exact add_l (show _ ≤ 2 ^ 24 by simp [others])
    have hpl : Pls ds = true := by simpa [Pl] using hp
    obtain ⟨d', h1, h2⟩ := fin L (by simp [hL]) fun x hx => by
      rw [hL] at hx
      rcases List.mem_append.mp hx with h | h
      · simp only [List.mem_cons, List.not_mem_nil, or_false] at h
        rcases h with rfl | rfl | rfl | rfl <;> exact ⟨by simp [Pl, hpl, Pls_rev], by simp [sz, szs_rev]; try omega, by simp [PyData.depth, dAll_rev]⟩
      · exact others_near E _ hp x h
    refine ⟨d', ?_, h2⟩
    simp only [others] at ha
    simp only [e_run, e_seq, seq_nx, seq_rt, seq_none, e_skip, e_set, e_own, nxK_some, vK_some, oK_some, e_ret, rtK_some, e_if, ifK_some, e_fVar, e_bVar, va_val, vb_val, vb_own, vb_bor, at_0, at_S, set_0, set_S, e_K, e_f1, o1_some, e_f2, o2_some, e_and, and_t, and_f, and_b, e_or, or_b, e_tOf, to_b, e_tAnd, tand_b, e_tOr, tor_b, e_tNot, not_b, e_tYes, e_fIf, fif_b, e_nil, e_cons, cons_some, e_tup, tup_some, e_lst, lst_some, e_call, call_some, e_m1, e_m2, e_sSeq, seqs_l, seqs_t, seqs_s, e_for, for_some, e_asg, tg_some, e_gN, e_gT2, e_gT3, e_frz, frz_own, e_retOwn, ch_b, e_lc, co_some, lc_some, wipe_nil, wipe_cons, end_rt, end_nx, pt_none, pt_some, int_some, e_cut, cut_l, cut_t, e_app, e_sRng, pad_0, sl_f, sl_t, sl_nil, add_i, sub_i, lt_i, le_i, gt_i, ge_i, neg_i, not_d, len_l, len_t, ix_l, ix_t, max2_i, min2_i, tup_l, tup_t, lst_l, lst_t, rev_l, rev_t, bool_i, bool_b, int_b, isn_n, e_chain, e_par, e_m3, List.length_cons, List.length_nil, List.replicate, List.cons_append, List.nil_append, Option.map_some, Nat.reduceAdd, Nat.reduceSub, Nat.zero_add, if_true, if_false, ite_true, ite_false, Bool.false_eq_true, reduceCtorEq, decide_true, decide_false, not_true, not_false_iff, Bool.not_true, Bool.not_false, Bool.and_true, Bool.true_and, Bool.and_false, Bool.false_and, Bool.or_true, Bool.true_or, Bool.or_false, Bool.false_or, Mi.m_law_other, Mi.G_law_other, hE, is_int hn, is_bool hn, is_seq hn, isT, ha, nums, hy, h1]
  | dict _ => cases hn
  | _ =>
    obtain ⟨d', h1, h2⟩ := fin (others E _) (by simp [others]) (others_near E _ hp)
    refine ⟨d', ?_, h2⟩
    simp only [others, List.length_cons, List.length_nil, Nat.reduceAdd, Nat.zero_add] at h1
    simp only [e_run, e_seq, seq_nx, seq_rt, seq_none, e_skip, e_set, e_own, nxK_some, vK_some, oK_some, e_ret, rtK_some, e_if, ifK_some, e_fVar, e_bVar, va_val, vb_val, vb_own, vb_bor, at_0, at_S, set_0, set_S, e_K, e_f1, o1_some, e_f2, o2_some, e_and, and_t, and_f, and_b, e_or, or_b, e_tOf, to_b, e_tAnd, tand_b, e_tOr, tor_b, e_tNot, not_b, e_tYes, e_fIf, fif_b, e_nil, e_cons, cons_some, e_tup, tup_some, e_lst, lst_some, e_call, call_some, e_m1, e_m2, e_sSeq, seqs_l, seqs_t, seqs_s, e_for, for_some, e_asg, tg_some, e_gN, e_gT2, e_gT3, e_frz, frz_own, e_retOwn, ch_b, e_lc, co_some, lc_some, wipe_nil, wipe_cons, end_rt, end_nx, pt_none, pt_some, int_some, e_cut, cut_l, cut_t, e_app, e_sRng, pad_0, sl_f, sl_t, sl_nil, add_i, sub_i, lt_i, le_i, gt_i, ge_i, neg_i, not_d, len_l, len_t, ix_l, ix_t, max2_i, min2_i, tup_l, tup_t, lst_l, lst_t, rev_l, rev_t, bool_i, bool_b, int_b, isn_n, e_chain, e_par, e_m3, List.length_cons, List.length_nil, List.replicate, List.cons_append, List.nil_append, Option.map_some, Nat.reduceAdd, Nat.reduceSub, Nat.zero_add, if_true, if_false, ite_true, ite_false, Bool.false_eq_true, reduceCtorEq, decide_true, decide_false, not_true, not_false_iff, Bool.not_true, Bool.not_false, Bool.and_true, Bool.true_and, Bool.and_false, Bool.false_and, Bool.or_true, Bool.true_or, Bool.or_false, Bool.false_or, Mi.m_law_other, Mi.G_law_other, hE, is_int hn, is_bool hn, is_seq hn, isT, nums, hy, h1]
end Fact
set_option maxRecDepth 100000
/-! Bending at a place; things of all kinds. -/
namespace Fact
open PySem Pu
/-- rows shifted: the same things, one of them twice at most -/
theorem shifted_ok {ds : List D} {at_ : Nat} {x : D} {dr : List Int} (hx : ds[at_]? = some x) (hl : 3 ≤ dr.length) (hp : ∀ n ∈ dr, 0 ≤ n) (hs : ds.length ≤ 2000000) :
    ∃ es, Mi.m_law_shifted [.list ds, .int (at_ : Int), nums dr] = some (.list es) ∧ (∀ y ∈ es, y ∈ ds) ∧ szs es ≤ szs ds + sz x := by
  obtain ⟨hat, hge⟩ := List.getElem?_eq_some_iff.mp hx
  obtain ⟨d0, _, _, q0⟩ := nums_at (ns := dr) (i := 0) (by omega) (by omega)
  obtain ⟨d2, _, _, q2⟩ := nums_at (ns := dr) (i := 2) (by omega) (by omega)
  have hlen : (0 : Int) < ds.length := by omega
  have r2 : modD (.int d2) (.int ds.length) = some (.int (d2 % ds.length)) := mod_ok hlen
  have u1 := Int.emod_nonneg d2 (b := (ds.length : Int)) (by omega)
  obtain ⟨o, ho⟩ : ∃ o : Nat, (o : Int) = d2 % ds.length := ⟨(d2 % ds.length).toNat, by omega⟩
  rw [← ho] at r2
  have r0 : modD (.int d0) (.int 3) = some (.int (d0 % 3)) := mod_ok (by decide)
  have cast : (at_ : Int) + 1 = ((at_ + 1 : Nat) : Int) := by omega
  have qx : L2.atI ds (at_ : Int) = some x := atI_nat hx
  have hxm : x ∈ ds := List.mem_of_getElem? hx
  have split : szs ds = szs (ds.take at_) + (sz x + szs (ds.drop (at_ + 1))) := by
    have h := congrArg szs (List.take_append_drop at_ ds)
    rw [szs_app, List.drop_eq_getElem_cons hat, hge] at h
    simp only [szs] at h
    omega
  have split2 : ∀ l : List D, ∀ k, szs (l.take k) + szs (l.drop k) = szs l := fun l k => by
    have h := congrArg szs (List.take_append_drop k l)
    rw [szs_app] at h
    exact h
  have a1 : addD (.list (ds.take at_)) (.list (ds.drop (at_ + 1))) = some (.list (ds.take at_ ++ ds.drop (at_ + 1))) := add_l (by
    rw [List.length_take, List.length_drop]; exact Nat.le_trans (show _ ≤ 2000000 by omega) (by decide))
  by_cases c0 : d0 % 3 = 0
  · refine ⟨ds.take at_ ++ ds.drop (at_ + 1), ?_, fun y h => ?_, by rw [szs_app]; omega⟩
    · simp only [e_run, e_seq, seq_nx, seq_rt, seq_none, e_skip, e_set, e_own, nxK_some, vK_some, oK_some, e_ret, rtK_some, e_if, ifK_some, e_fVar, e_bVar, va_val, vb_val, vb_own, vb_bor, at_0, at_S, set_0, set_S, e_K, e_f1, o1_some, e_f2, o2_some, e_and, and_t, and_f, and_b, e_or, or_b, e_tOf, to_b, e_tAnd, tand_b, e_tOr, tor_b, e_tNot, not_b, e_tYes, e_fIf, fif_b, e_nil, e_cons, cons_some, e_tup, tup_some, e_lst, lst_some, e_call, call_some, e_m1, e_m2, e_sSeq, seqs_l, seqs_t, seqs_s, e_for, for_some, e_asg, tg_some, e_gN, e_gT2, e_gT3, e_frz, frz_own, e_retOwn, ch_b, e_lc, co_some, lc_some, wipe_nil, wipe_cons, end_rt, end_nx, pt_none, pt_some, int_some, e_cut, cut_l, cut_t, e_app, e_sRng, pad_0, sl_f, sl_t, sl_nil, add_i, sub_i, lt_i, le_i, gt_i, ge_i, neg_i, not_d, len_l, len_t, ix_l, ix_t, max2_i, min2_i, tup_l, tup_t, lst_l, lst_t, rev_l, rev_t, bool_i, bool_b, int_b, isn_n, e_chain, e_par, e_m3, List.length_cons, List.length_nil, List.replicate, List.cons_append, List.nil_append, Option.map_some, Nat.reduceAdd, Nat.reduceSub, Nat.zero_add, if_true, if_false, ite_true, ite_false, Bool.false_eq_true, reduceCtorEq, decide_true, decide_false, not_true, not_false_iff, Bool.not_true, Bool.not_false, Bool.and_true, Bool.true_and, Bool.and_false, Bool.false_and, Bool.or_true, Bool.true_or, Bool.or_false, Bool.false_or, Mi.m_law_shifted, Mi.G_law_shifted, nums, q2, r2, q0, r0, eq_i, show (d0 % 3 == 0) = true by simpa using c0, cast, cut_to, cut_from, a1]
    · rcases List.mem_append.mp h with h | h
      · exact List.mem_of_mem_take h
      · exact List.mem_of_mem_drop h
  · have c0' : (d0 % 3 == 0) = false := by simpa using c0
    have ins : ∀ l : List D, l.length ≤ 2000000 → addD (.list (l.take o)) (.list [x]) = some (.list (l.take o ++ [x])) ∧ addD (.list (l.take o ++ [x])) (.list (l.drop o)) = some (.list (l.take o ++ [x] ++ l.drop o)) := fun l hl => by
      refine ⟨add_l ?_, add_l ?_⟩
      · rw [List.length_take, List.length_singleton]; exact Nat.le_trans (show _ ≤ 2000001 by omega) (by decide)
      · rw [List.length_append, List.length_take, List.length_singleton, List.length_drop]; exact Nat.le_trans (show _ ≤ 4000001 by omega) (by decide)
    by_cases c1 : d0 % 3 = 1
    · have i1 := ins ds hs
      refine ⟨ds.take o ++ [x] ++ ds.drop o, ?_, fun y h => ?_, ?_⟩
      · simp only [e_run, e_seq, seq_nx, seq_rt, seq_none, e_skip, e_set, e_own, nxK_some, vK_some, oK_some, e_ret, rtK_some, e_if, ifK_some, e_fVar, e_bVar, va_val, vb_val, vb_own, vb_bor, at_0, at_S, set_0, set_S, e_K, e_f1, o1_some, e_f2, o2_some, e_and, and_t, and_f, and_b, e_or, or_b, e_tOf, to_b, e_tAnd, tand_b, e_tOr, tor_b, e_tNot, not_b, e_tYes, e_fIf, fif_b, e_nil, e_cons, cons_some, e_tup, tup_some, e_lst, lst_some, e_call, call_some, e_m1, e_m2, e_sSeq, seqs_l, seqs_t, seqs_s, e_for, for_some, e_asg, tg_some, e_gN, e_gT2, e_gT3, e_frz, frz_own, e_retOwn, ch_b, e_lc, co_some, lc_some, wipe_nil, wipe_cons, end_rt, end_nx, pt_none, pt_some, int_some, e_cut, cut_l, cut_t, e_app, e_sRng, pad_0, sl_f, sl_t, sl_nil, add_i, sub_i, lt_i, le_i, gt_i, ge_i, neg_i, not_d, len_l, len_t, ix_l, ix_t, max2_i, min2_i, tup_l, tup_t, lst_l, lst_t, rev_l, rev_t, bool_i, bool_b, int_b, isn_n, e_chain, e_par, e_m3, List.length_cons, List.length_nil, List.replicate, List.cons_append, List.nil_append, Option.map_some, Nat.reduceAdd, Nat.reduceSub, Nat.zero_add, if_true, if_false, ite_true, ite_false, Bool.false_eq_true, reduceCtorEq, decide_true, decide_false, not_true, not_false_iff, Bool.not_true, Bool.not_false, Bool.and_true, Bool.true_and, Bool.and_false, Bool.false_and, Bool.or_true, Bool.true_or, Bool.or_false, Bool.false_or, Mi.m_law_shifted, Mi.G_law_shifted, nums, q2, r2, q0, r0, eq_i, c0', show (d0 % 3 == 1) = true by simpa using c1, qx, cut_to, cut_from, i1.1, i1.2]
      · simp only [List.mem_append, List.mem_singleton] at h
        rcases h with (h | rfl) | h
        · exact List.mem_of_mem_take h
        · exact hxm
        · exact List.mem_of_mem_drop h
      · have := split2 ds o
        rw [szs_app, szs_app]
        simp only [szs]
        omega
    · have c1' : (d0 % 3 == 1) = false := by simpa using c1
      obtain ⟨l, hl2⟩ : ∃ l, l = ds.take at_ ++ ds.drop (at_ + 1) := ⟨_, rfl⟩
      have hll : l.length ≤ 2000000 := by rw [hl2, List.length_append, List.length_take, List.length_drop]; omega
      have i1 := ins l hll
      have hmem : ∀ y ∈ l, y ∈ ds := fun y h => by
        rw [hl2] at h
        rcases List.mem_append.mp h with h | h
        · exact List.mem_of_mem_take h
        · exact List.mem_of_mem_drop h
      rw [← hl2] at a1
      refine ⟨l.take o ++ [x] ++ l.drop o, ?_, fun y h => ?_, ?_⟩
      · simp only [e_run, e_seq, seq_nx, seq_rt, seq_none, e_skip, e_set, e_own, nxK_some, vK_some, oK_some, e_ret, rtK_some, e_if, ifK_some, e_fVar, e_bVar, va_val, vb_val, vb_own, vb_bor, at_0, at_S, set_0, set_S, e_K, e_f1, o1_some, e_f2, o2_some, e_and, and_t, and_f, and_b, e_or, or_b, e_tOf, to_b, e_tAnd, tand_b, e_tOr, tor_b, e_tNot, not_b, e_tYes, e_fIf, fif_b, e_nil, e_cons, cons_some, e_tup, tup_some, e_lst, lst_some, e_call, call_some, e_m1, e_m2, e_sSeq, seqs_l, seqs_t, seqs_s, e_for, for_some, e_asg, tg_some, e_gN, e_gT2, e_gT3, e_frz, frz_own, e_retOwn, ch_b, e_lc, co_some, lc_some, wipe_nil, wipe_cons, end_rt, end_nx, pt_none, pt_some, int_some, e_cut, cut_l, cut_t, e_app, e_sRng, pad_0, sl_f, sl_t, sl_nil, add_i, sub_i, lt_i, le_i, gt_i, ge_i, neg_i, not_d, len_l, len_t, ix_l, ix_t, max2_i, min2_i, tup_l, tup_t, lst_l, lst_t, rev_l, rev_t, bool_i, bool_b, int_b, isn_n, e_chain, e_par, e_m3, List.length_cons, List.length_nil, List.replicate, List.cons_append, List.nil_append, Option.map_some, Nat.reduceAdd, Nat.reduceSub, Nat.zero_add, if_true, if_false, ite_true, ite_false, Bool.false_eq_true, reduceCtorEq, decide_true, decide_false, not_true, not_false_iff, Bool.not_true, Bool.not_false, Bool.and_true, Bool.true_and, Bool.and_false, Bool.false_and, Bool.or_true, Bool.true_or, Bool.or_false, Bool.false_or, Mi.m_law_shifted, Mi.G_law_shifted, nums, q2, r2, q0, r0, eq_i, c0', c1', qx, cast, cut_to, cut_from, a1, i1.1, i1.2]
      · simp only [List.mem_append, List.mem_singleton] at h
        rcases h with (h | rfl) | h
        · exact hmem _ (List.mem_of_mem_take h)
        · exact hxm
        · exact hmem _ (List.mem_of_mem_drop h)
      · have := split2 l o
        have h2 : szs l = szs (ds.take at_) + szs (ds.drop (at_ + 1)) := by rw [hl2, szs_app]
        rw [szs_app, szs_app]
        simp only [szs]
        omega
theorem path_nil {p : List Nat} : eqD (pathD p) (.tuple []) = some (.bool p.isEmpty) := by
  unfold eqD eqB eqOk pathD
  have h1 : noDict (.tuple (p.map fun (i : Nat) => PyData.int (i : Int))) = true := by
    simp only [noDict]
    induction p with
    | nil => rfl
    | cons a p ih => simpa [noDicts, noDict] using ih
  have h2 : noDict (.tuple []) = true := rfl
  have h3 : min (PyData.depth (.tuple (p.map fun (i : Nat) => PyData.int (i : Int)))) (PyData.depth (.tuple [])) ≤ 64 := Nat.le_trans (Nat.min_le_right _ _) (by simp [PyData.depth, PyData.depthAll])
  simp only [h1, h2, h3, decide_true, Bool.and_true, if_true, Option.map_some]
  cases p <;> rfl
theorem Pls_set {ds : List D} {i : Nat} {y : D} (h : Pls ds = true) (hy : Pl y = true) : Pls (ds.set i y) = true := Pls_iff.mpr fun d m => by
  rcases List.mem_or_eq_of_mem_set m with h2 | h2
  · exact Pls_iff.mp h d h2
  · rw [h2]; exact hy
theorem szs_set : ∀ {ds : List D} {i : Nat} {x y : D}, ds[i]? = some x → szs (ds.set i y) + sz x = szs ds + sz y
  | d :: ds, 0, x, y, h => by cases h; simp only [List.set_cons_zero, szs]; omega
  | d :: ds, i + 1, x, y, h => by have := szs_set (ds := ds) (i := i) (x := x) (y := y) h; simp only [List.set_cons_succ, szs]; omega
theorem dAll_le {ds : List D} {n : Nat} (h : ∀ d ∈ ds, d.depth ≤ n) : PyData.depthAll ds ≤ n := by
  induction ds with
  | nil => exact Nat.zero_le _
  | cons d ds ih => exact Nat.max_le.mpr ⟨h d List.mem_cons_self, ih fun x m => h x (List.mem_cons_of_mem _ m)⟩
/-- a list or tuple again as it was -/
theorem again_near {d : D} (hq : isT .seq d = true) {es : List D} (h1 : Pls es = true) (h2 : szs es ≤ 2 * sz d + 4) (h3 : PyData.depthAll es ≤ d.depth) : Near d (if isT .list d then .list es else .tuple es) := by
  cases d with
  | list ds => exact ⟨h1, by simp only [isT, if_true, sz] at h2 ⊢; omega, by simp only [isT, if_true, PyData.depth] at h3 ⊢; omega⟩
  | tuple ds => exact ⟨h1, by simp only [isT, Bool.false_eq_true, if_false, sz] at h2 ⊢; omega, by simp only [isT, Bool.false_eq_true, if_false, PyData.depth] at h3 ⊢; omega⟩
  | _ => cases hq
theorem put_ok : ∀ (n : Nat) (d : D) (p : List Nat) (dr : List Int), Pl d = true → vp p d → p.length < n → p.length ≤ 1000 → 4 ≤ dr.length → (∀ k ∈ dr, 0 ≤ k) → sz d ≤ 1000000 →
    ∃ d', Mi.mf_law_put n [d, pathD p, nums dr] = some d' ∧ Near d d'
  | 0, _, _, _, _, _, h, _, _, _, _ => absurd h (Nat.not_lt_zero _)
  | n + 1, d, [], dr, hp, _, _, _, hl, _, _ => by
    obtain ⟨d', h1, h2⟩ := other_ok (dr := dr) hp (by omega)
    refine ⟨d', ?_, h2⟩
    simp only [e_run, e_seq, seq_nx, seq_rt, seq_none, e_skip, e_set, e_own, nxK_some, vK_some, oK_some, e_ret, rtK_some, e_if, ifK_some, e_fVar, e_bVar, va_val, vb_val, vb_own, vb_bor, at_0, at_S, set_0, set_S, e_K, e_f1, o1_some, e_f2, o2_some, e_and, and_t, and_f, and_b, e_or, or_b, e_tOf, to_b, e_tAnd, tand_b, e_tOr, tor_b, e_tNot, not_b, e_tYes, e_fIf, fif_b, e_nil, e_cons, cons_some, e_tup, tup_some, e_lst, lst_some, e_call, call_some, e_m1, e_m2, e_sSeq, seqs_l, seqs_t, seqs_s, e_for, for_some, e_asg, tg_some, e_gN, e_gT2, e_gT3, e_frz, frz_own, e_retOwn, ch_b, e_lc, co_some, lc_some, wipe_nil, wipe_cons, end_rt, end_nx, pt_none, pt_some, int_some, e_cut, cut_l, cut_t, e_app, e_sRng, pad_0, sl_f, sl_t, sl_nil, add_i, sub_i, lt_i, le_i, gt_i, ge_i, neg_i, not_d, len_l, len_t, ix_l, ix_t, max2_i, min2_i, tup_l, tup_t, lst_l, lst_t, rev_l, rev_t, bool_i, bool_b, int_b, isn_n, e_chain, e_par, e_m3, List.length_cons, List.length_nil, List.replicate, List.cons_append, List.nil_append, Option.map_some, Nat.reduceAdd, Nat.reduceSub, Nat.zero_add, if_true, if_false, ite_true, ite_false, Bool.false_eq_true, reduceCtorEq, decide_true, decide_false, not_true, not_false_iff, Bool.not_true, Bool.not_false, Bool.and_true, Bool.true_and, Bool.and_false, Bool.false_and, Bool.or_true, Bool.true_or, Bool.or_false, Bool.false_or, Mi.mf_law_put, Mi.G_law_put, path_nil, List.isEmpty_nil, h1]
  | n + 1, d, i :: p, dr, hp, hv, hn, hn2, hl, hd, hs => by
    obtain ⟨x, hx, hv2⟩ := (by simpa only [vp] using hv : ∃ x, (kids d)[i]? = some x ∧ vp p x)
    have hnd := noDict_Pl hp
    have hq : isT .seq d = true := by cases d <;> first | rfl | (simp [kids] at hx)
    have hm := List.mem_of_getElem? hx
    have hk := sz_kids hq
    have hkd := depth_kids hq
    have hpk : Pls (kids d) = true := Pls_iff.mpr (Pl_kids hp)
    have hls : lstD d = some (.list (kids d)) := by rcases kids_of hq with e | e <;> rw [e] <;> rfl
    have hlen := len_szs (kids d)
    have hzx := sz_mem hm
    have hdx := depth_mem hm
    obtain ⟨d3, _, _, q3⟩ := nums_at (ns := dr) (i := 3) (by omega) (by omega)
    have r3 : modD (.int d3) (.int 2) = some (.int (d3 % 2)) := mod_ok (by decide)
    have e0 : ixD (pathD (i :: p)) (.int 0) = some (.int (i : Int)) := atI_nat (i := 0) rfl
    have el : lenD (pathD (i :: p)) = some (.int ((p.length + 1 : Nat) : Int)) := by simp [pathD, lenD]
    have fin : ∀ es : List D, fifK (some (isT .list d)) (fVar 3) (fCall (m1 tupD) [bVar 3]) [.val d, .val (pathD (i :: p)), .val (nums dr), .val (.list es)] = some (if isT .list d then .list es else .tuple es) := fun es => by
      cases isT .list d <;> simp only [e_run, e_seq, seq_nx, seq_rt, seq_none, e_skip, e_set, e_own, nxK_some, vK_some, oK_some, e_ret, rtK_some, e_if, ifK_some, e_fVar, e_bVar, va_val, vb_val, vb_own, vb_bor, at_0, at_S, set_0, set_S, e_K, e_f1, o1_some, e_f2, o2_some, e_and, and_t, and_f, and_b, e_or, or_b, e_tOf, to_b, e_tAnd, tand_b, e_tOr, tor_b, e_tNot, not_b, e_tYes, e_fIf, fif_b, e_nil, e_cons, cons_some, e_tup, tup_some, e_lst, lst_some, e_call, call_some, e_m1, e_m2, e_sSeq, seqs_l, seqs_t, seqs_s, e_for, for_some, e_asg, tg_some, e_gN, e_gT2, e_gT3, e_frz, frz_own, e_retOwn, ch_b, e_lc, co_some, lc_some, wipe_nil, wipe_cons, end_rt, end_nx, pt_none, pt_some, int_some, e_cut, cut_l, cut_t, e_app, e_sRng, pad_0, sl_f, sl_t, sl_nil, add_i, sub_i, lt_i, le_i, gt_i, ge_i, neg_i, not_d, len_l, len_t, ix_l, ix_t, max2_i, min2_i, tup_l, tup_t, lst_l, lst_t, rev_l, rev_t, bool_i, bool_b, int_b, isn_n, e_chain, e_par, e_m3, List.length_cons, List.length_nil, List.replicate, List.cons_append, List.nil_append, Option.map_some, Nat.reduceAdd, Nat.reduceSub, Nat.zero_add, if_true, if_false, ite_true, ite_false, Bool.false_eq_true, reduceCtorEq, decide_true, decide_false, not_true, not_false_iff, Bool.not_true, Bool.not_false, Bool.and_true, Bool.true_and, Bool.and_false, Bool.false_and, Bool.or_true, Bool.true_or, Bool.or_false, Bool.false_or]
    by_cases hsh : p.length = 0 ∧ d3 % 2 = 0
    · obtain ⟨es, h1, h2, h3⟩ := shifted_ok (dr := dr) hx (by omega) hd (by omega)
      refine ⟨_, ?_, again_near hq (Pls_iff.mpr fun y hy => Pl_kids hp y (h2 y hy)) (by omega) (by rw [hkd]; exact Nat.le_succ_of_le (dAll_le fun y hy => depth_mem (h2 y hy)))⟩
      · have c1 : (((p.length + 1 : Nat) : Int) == 1) = true := by simp; omega
        have c2 : (d3 % 2 == 0) = true := by simpa using hsh.2
        simp only [e_run, e_seq, seq_nx, seq_rt, seq_none, e_skip, e_set, e_own, nxK_some, vK_some, oK_some, e_ret, rtK_some, e_if, ifK_some, e_fVar, e_bVar, va_val, vb_val, vb_own, vb_bor, at_0, at_S, set_0, set_S, e_K, e_f1, o1_some, e_f2, o2_some, e_and, and_t, and_f, and_b, e_or, or_b, e_tOf, to_b, e_tAnd, tand_b, e_tOr, tor_b, e_tNot, not_b, e_tYes, e_fIf, fif_b, e_nil, e_cons, cons_some, e_tup, tup_some, e_lst, lst_some, e_call, call_some, e_m1, e_m2, e_sSeq, seqs_l, seqs_t, seqs_s, e_for, for_some, e_asg, tg_some, e_gN, e_gT2, e_gT3, e_frz, frz_own, e_retOwn, ch_b, e_lc, co_some, lc_some, wipe_nil, wipe_cons, end_rt, end_nx, pt_none, pt_some, int_some, e_cut, cut_l, cut_t, e_app, e_sRng, pad_0, sl_f, sl_t, sl_nil, add_i, sub_i, lt_i, le_i, gt_i, ge_i, neg_i, not_d, len_l, len_t, ix_l, ix_t, max2_i, min2_i, tup_l, tup_t, lst_l, lst_t, rev_l, rev_t, bool_i, bool_b, int_b, isn_n, e_chain, e_par, e_m3, List.length_cons, List.length_nil, List.replicate, List.cons_append, List.nil_append, Option.map_some, Nat.reduceAdd, Nat.reduceSub, Nat.zero_add, if_true, if_false, ite_true, ite_false, Bool.false_eq_true, reduceCtorEq, decide_true, decide_false, not_true, not_false_iff, Bool.not_true, Bool.not_false, Bool.and_true, Bool.true_and, Bool.and_false, Bool.false_and, Bool.or_true, Bool.true_or, Bool.or_false, Bool.false_or, Mi.mf_law_put, Mi.G_law_put, path_nil, List.isEmpty_cons, hls, el, eq_i, c1, nums, q3, r3, c2, e0]
        simp only [nums] at h1 fin
        simp only [e_run, e_seq, seq_nx, seq_rt, seq_none, e_skip, e_set, e_own, nxK_some, vK_some, oK_some, e_ret, rtK_some, e_if, ifK_some, e_fVar, e_bVar, va_val, vb_val, vb_own, vb_bor, at_0, at_S, set_0, set_S, e_K, e_f1, o1_some, e_f2, o2_some, e_and, and_t, and_f, and_b, e_or, or_b, e_tOf, to_b, e_tAnd, tand_b, e_tOr, tor_b, e_tNot, not_b, e_tYes, e_fIf, fif_b, e_nil, e_cons, cons_some, e_tup, tup_some, e_lst, lst_some, e_call, call_some, e_m1, e_m2, e_sSeq, seqs_l, seqs_t, seqs_s, e_for, for_some, e_asg, tg_some, e_gN, e_gT2, e_gT3, e_frz, frz_own, e_retOwn, ch_b, e_lc, co_some, lc_some, wipe_nil, wipe_cons, end_rt, end_nx, pt_none, pt_some, int_some, e_cut, cut_l, cut_t, e_app, e_sRng, pad_0, sl_f, sl_t, sl_nil, add_i, sub_i, lt_i, le_i, gt_i, ge_i, neg_i, not_d, len_l, len_t, ix_l, ix_t, max2_i, min2_i, tup_l, tup_t, lst_l, lst_t, rev_l, rev_t, bool_i, bool_b, int_b, isn_n, e_chain, e_par, e_m3, List.length_cons, List.length_nil, List.replicate, List.cons_append, List.nil_append, Option.map_some, Nat.reduceAdd, Nat.reduceSub, Nat.zero_add, if_true, if_false, ite_true, ite_false, Bool.false_eq_true, reduceCtorEq, decide_true, decide_false, not_true, not_false_iff, Bool.not_true, Bool.not_false, Bool.and_true, Bool.true_and, Bool.and_false, Bool.false_and, Bool.or_true, Bool.true_or, Bool.or_false, Bool.false_or, h1, is_lst hnd, fin]
    · obtain ⟨y, h1, h2⟩ := put_ok n x p dr (Pl_kids hp x hm) hv2 (by simp at hn; omega) (by simp at hn2; omega) hl hd (by omega)
      have ey : L2.atI (kids d) (i : Int) = some x := atI_nat hx
      have ec : cutK (some (pathD (i :: p))) (some (some 1)) (some none) = some (pathD p) := by
        show some (PyData.tuple (cutL _ (some ((1 : Nat) : Int)) none)) = _
        rw [cut_from]
        simp [pathD]
      have hil : (i : Int) < (kids d).length := by have := (List.getElem?_eq_some_iff.mp hx).1; omega
      have ep : gPut 3 (f2 ixD (bVar 1) (fK (.int 0))) (fCall (Mi.mf_law_put n) [f2 ixD (bVar 3) (f2 ixD (bVar 1) (fK (.int 0))), fCut (bVar 1) (some (fK (.int 1))) none, fVar 2]) [.val d, .val (pathD (i :: p)), .val (nums dr), .own (.list (kids d))] =
          some (.nx [.val d, .val (pathD (i :: p)), .val (nums dr), .own (.list ((kids d).set i y))]) := by
        have hv3 : fCall (Mi.mf_law_put n) [f2 ixD (bVar 3) (f2 ixD (bVar 1) (fK (.int 0))), fCut (bVar 1) (some (fK (.int 1))) none, fVar 2] [.val d, .val (pathD (i :: p)), .val (nums dr), .own (.list (kids d))] = some y := by
          simp only [e_run, e_seq, seq_nx, seq_rt, seq_none, e_skip, e_set, e_own, nxK_some, vK_some, oK_some, e_ret, rtK_some, e_if, ifK_some, e_fVar, e_bVar, va_val, vb_val, vb_own, vb_bor, at_0, at_S, set_0, set_S, e_K, e_f1, o1_some, e_f2, o2_some, e_and, and_t, and_f, and_b, e_or, or_b, e_tOf, to_b, e_tAnd, tand_b, e_tOr, tor_b, e_tNot, not_b, e_tYes, e_fIf, fif_b, e_nil, e_cons, cons_some, e_tup, tup_some, e_lst, lst_some, e_call, call_some, e_m1, e_m2, e_sSeq, seqs_l, seqs_t, seqs_s, e_for, for_some, e_asg, tg_some, e_gN, e_gT2, e_gT3, e_frz, frz_own, e_retOwn, ch_b, e_lc, co_some, lc_some, wipe_nil, wipe_cons, end_rt, end_nx, pt_none, pt_some, int_some, e_cut, cut_l, cut_t, e_app, e_sRng, pad_0, sl_f, sl_t, sl_nil, add_i, sub_i, lt_i, le_i, gt_i, ge_i, neg_i, not_d, len_l, len_t, ix_l, ix_t, max2_i, min2_i, tup_l, tup_t, lst_l, lst_t, rev_l, rev_t, bool_i, bool_b, int_b, isn_n, e_chain, e_par, e_m3, List.length_cons, List.length_nil, List.replicate, List.cons_append, List.nil_append, Option.map_some, Nat.reduceAdd, Nat.reduceSub, Nat.zero_add, if_true, if_false, ite_true, ite_false, Bool.false_eq_true, reduceCtorEq, decide_true, decide_false, not_true, not_false_iff, Bool.not_true, Bool.not_false, Bool.and_true, Bool.true_and, Bool.and_false, Bool.false_and, Bool.or_true, Bool.true_or, Bool.or_false, Bool.false_or, e0, ey, ec, h1]
        have hk3 : f2 ixD (bVar 1) (fK (.int 0)) [.val d, .val (pathD (i :: p)), .val (nums dr), .own (.list (kids d))] = some (.int (i : Int)) := by simp only [e_run, e_seq, seq_nx, seq_rt, seq_none, e_skip, e_set, e_own, nxK_some, vK_some, oK_some, e_ret, rtK_some, e_if, ifK_some, e_fVar, e_bVar, va_val, vb_val, vb_own, vb_bor, at_0, at_S, set_0, set_S, e_K, e_f1, o1_some, e_f2, o2_some, e_and, and_t, and_f, and_b, e_or, or_b, e_tOf, to_b, e_tAnd, tand_b, e_tOr, tor_b, e_tNot, not_b, e_tYes, e_fIf, fif_b, e_nil, e_cons, cons_some, e_tup, tup_some, e_lst, lst_some, e_call, call_some, e_m1, e_m2, e_sSeq, seqs_l, seqs_t, seqs_s, e_for, for_some, e_asg, tg_some, e_gN, e_gT2, e_gT3, e_frz, frz_own, e_retOwn, ch_b, e_lc, co_some, lc_some, wipe_nil, wipe_cons, end_rt, end_nx, pt_none, pt_some, int_some, e_cut, cut_l, cut_t, e_app, e_sRng, pad_0, sl_f, sl_t, sl_nil, add_i, sub_i, lt_i, le_i, gt_i, ge_i, neg_i, not_d, len_l, len_t, ix_l, ix_t, max2_i, min2_i, tup_l, tup_t, lst_l, lst_t, rev_l, rev_t, bool_i, bool_b, int_b, isn_n, e_chain, e_par, e_m3, List.length_cons, List.length_nil, List.replicate, List.cons_append, List.nil_append, Option.map_some, Nat.reduceAdd, Nat.reduceSub, Nat.zero_add, if_true, if_false, ite_true, ite_false, Bool.false_eq_true, reduceCtorEq, decide_true, decide_false, not_true, not_false_iff, Bool.not_true, Bool.not_false, Bool.and_true, Bool.true_and, Bool.and_false, Bool.false_and, Bool.or_true, Bool.true_or, Bool.or_false, Bool.false_or, e0]
        unfold gPut
        rw [hv3, Option.bind_some, hk3, Option.bind_some]
        show (L2.ixN (kids d).length (i : Int)).map _ = _
        unfold L2.ixN
        rw [if_pos (by omega), if_pos hil]
        rfl
      have hz := szs_set (y := y) hx
      have hny := h2.sz
      have hdy := h2.dp
      refine ⟨_, ?_, again_near hq (es := (kids d).set i y) (Pls_set hpk h2.pl) (by omega) (dAll_le fun z hz => ?_)⟩
      · have fin2 := fin ((kids d).set i y)
        cases hp0 : (((p.length + 1 : Nat) : Int) == 1) with
        | false =>
          simp only [e_run, e_seq, seq_nx, seq_rt, seq_none, e_skip, e_set, e_own, nxK_some, vK_some, oK_some, e_ret, rtK_some, e_if, ifK_some, e_fVar, e_bVar, va_val, vb_val, vb_own, vb_bor, at_0, at_S, set_0, set_S, e_K, e_f1, o1_some, e_f2, o2_some, e_and, and_t, and_f, and_b, e_or, or_b, e_tOf, to_b, e_tAnd, tand_b, e_tOr, tor_b, e_tNot, not_b, e_tYes, e_fIf, fif_b, e_nil, e_cons, cons_some, e_tup, tup_some, e_lst, lst_some, e_call, call_some, e_m1, e_m2, e_sSeq, seqs_l, seqs_t, seqs_s, e_for, for_some, e_asg, tg_some, e_gN, e_gT2, e_gT3, e_frz, frz_own, e_retOwn, ch_b, e_lc, co_some, lc_some, wipe_nil, wipe_cons, end_rt, end_nx, pt_none, pt_some, int_some, e_cut, cut_l, cut_t, e_app, e_sRng, pad_0, sl_f, sl_t, sl_nil, add_i, sub_i, lt_i, le_i, gt_i, ge_i, neg_i, not_d, len_l, len_t, ix_l, ix_t, max2_i, min2_i, tup_l, tup_t, lst_l, lst_t, rev_l, rev_t, bool_i, bool_b, int_b, isn_n, e_chain, e_par, e_m3, List.length_cons, List.length_nil, List.replicate, List.cons_append, List.nil_append, Option.map_some, Nat.reduceAdd, Nat.reduceSub, Nat.zero_add, if_true, if_false, ite_true, ite_false, Bool.false_eq_true, reduceCtorEq, decide_true, decide_false, not_true, not_false_iff, Bool.not_true, Bool.not_false, Bool.and_true, Bool.true_and, Bool.and_false, Bool.false_and, Bool.or_true, Bool.true_or, Bool.or_false, Bool.false_or, Mi.mf_law_put, Mi.G_law_put, path_nil, List.isEmpty_cons, hls, el, eq_i, hp0, ep, is_lst hnd, fin2]
        | true =>
          have c2 : (d3 % 2 == 0) = false := by
            have : p.length = 0 := by simp at hp0; omega
            simp; intro h; exact hsh ⟨this, h⟩
          have q3' : ixD (nums dr) (.int 3) = some (.int d3) := q3
          simp only [e_run, e_seq, seq_nx, seq_rt, seq_none, e_skip, e_set, e_own, nxK_some, vK_some, oK_some, e_ret, rtK_some, e_if, ifK_some, e_fVar, e_bVar, va_val, vb_val, vb_own, vb_bor, at_0, at_S, set_0, set_S, e_K, e_f1, o1_some, e_f2, o2_some, e_and, and_t, and_f, and_b, e_or, or_b, e_tOf, to_b, e_tAnd, tand_b, e_tOr, tor_b, e_tNot, not_b, e_tYes, e_fIf, fif_b, e_nil, e_cons, cons_some, e_tup, tup_some, e_lst, lst_some, e_call, call_some, e_m1, e_m2, e_sSeq, seqs_l, seqs_t, seqs_s, e_for, for_some, e_asg, tg_some, e_gN, e_gT2, e_gT3, e_frz, frz_own, e_retOwn, ch_b, e_lc, co_some, lc_some, wipe_nil, wipe_cons, end_rt, end_nx, pt_none, pt_some, int_some, e_cut, cut_l, cut_t, e_app, e_sRng, pad_0, sl_f, sl_t, sl_nil, add_i, sub_i, lt_i, le_i, gt_i, ge_i, neg_i, not_d, len_l, len_t, ix_l, ix_t, max2_i, min2_i, tup_l, tup_t, lst_l, lst_t, rev_l, rev_t, bool_i, bool_b, int_b, isn_n, e_chain, e_par, e_m3, List.length_cons, List.length_nil, List.replicate, List.cons_append, List.nil_append, Option.map_some, Nat.reduceAdd, Nat.reduceSub, Nat.zero_add, if_true, if_false, ite_true, ite_false, Bool.false_eq_true, reduceCtorEq, decide_true, decide_false, not_true, not_false_iff, Bool.not_true, Bool.not_false, Bool.and_true, Bool.true_and, Bool.and_false, Bool.false_and, Bool.or_true, Bool.true_or, Bool.or_false, Bool.false_or, Mi.mf_law_put, Mi.G_law_put, path_nil, List.isEmpty_cons, hls, el, eq_i, hp0, q3', r3, c2, ep, is_lst hnd, fin2]
      · rcases List.mem_or_eq_of_mem_set hz with h | h
        · have := depth_mem h; omega
        · rw [h]; omega
theorem bent_ok {d : D} {dr : List Int} (hp : Pl d = true) (hd : d.depth < 24) (hs : sz d ≤ 1000000) (hl : 5 ≤ dr.length) (hr : ∀ k ∈ dr, 0 ≤ k) : ∃ d', Mi.m_law_bent [d, nums dr] = some d' ∧ Near d d' := by
  obtain ⟨ps, h1, h2, h3, h4⟩ := places_ok 24 d hp hd (by omega) hs
  replace h1 : Mi.m_law_places [d] = _ := h1
  obtain ⟨d4, _, _, q4⟩ := nums_at (ns := dr) (i := 4) (by omega) (by omega)
  obtain ⟨pd, m1, r1, r2⟩ := at_mod (L := ps.map pathD) (n := d4) (by simpa using h2)
  obtain ⟨p, hpm, rfl⟩ := List.mem_map.mp m1
  obtain ⟨w1, w2⟩ := h4 p hpm
  obtain ⟨d', g1, g2⟩ := put_ok 24 d p dr hp w1 (by omega) (by omega) (by omega) hr hs
  replace g1 : Mi.m_law_put _ = _ := g1
  refine ⟨d', ?_, g2⟩
  have q4' : ixD (nums dr) (.int 4) = some (.int d4) := q4
  simp only [e_run, e_seq, seq_nx, seq_rt, seq_none, e_skip, e_set, e_own, nxK_some, vK_some, oK_some, e_ret, rtK_some, e_if, ifK_some, e_fVar, e_bVar, va_val, vb_val, vb_own, vb_bor, at_0, at_S, set_0, set_S, e_K, e_f1, o1_some, e_f2, o2_some, e_and, and_t, and_f, and_b, e_or, or_b, e_tOf, to_b, e_tAnd, tand_b, e_tOr, tor_b, e_tNot, not_b, e_tYes, e_fIf, fif_b, e_nil, e_cons, cons_some, e_tup, tup_some, e_lst, lst_some, e_call, call_some, e_m1, e_m2, e_sSeq, seqs_l, seqs_t, seqs_s, e_for, for_some, e_asg, tg_some, e_gN, e_gT2, e_gT3, e_frz, frz_own, e_retOwn, ch_b, e_lc, co_some, lc_some, wipe_nil, wipe_cons, end_rt, end_nx, pt_none, pt_some, int_some, e_cut, cut_l, cut_t, e_app, e_sRng, pad_0, sl_f, sl_t, sl_nil, add_i, sub_i, lt_i, le_i, gt_i, ge_i, neg_i, not_d, len_l, len_t, ix_l, ix_t, max2_i, min2_i, tup_l, tup_t, lst_l, lst_t, rev_l, rev_t, bool_i, bool_b, int_b, isn_n, e_chain, e_par, e_m3, List.length_cons, List.length_nil, List.replicate, List.cons_append, List.nil_append, Option.map_some, Nat.reduceAdd, Nat.reduceSub, Nat.zero_add, if_true, if_false, ite_true, ite_false, Bool.false_eq_true, reduceCtorEq, decide_true, decide_false, not_true, not_false_iff, Bool.not_true, Bool.not_false, Bool.and_true, Bool.true_and, Bool.and_false, Bool.false_and, Bool.or_true, Bool.true_or, Bool.or_false, Bool.false_or, Mi.m_law_bent, Mi.G_law_bent, h1, q4', r1, r2, g1]
end Fact
set_option maxRecDepth 100000
/-! Things of all kinds. -/
namespace Fact
open PySem Pu
theorem rot_ok {dr : List Int} (k : Nat) (hl : dr.length = 60) (hp : ∀ n ∈ dr, 0 ≤ n) : ∃ dr' : List Int, dr'.length = 60 ∧ (∀ n ∈ dr', 0 ≤ n) ∧ o2K addD (cutK (some (nums dr)) (some (some (k : Int))) (some none)) (cutK (some (nums dr)) (some none) (some (some (k : Int)))) = some (nums dr') := by
  refine ⟨dr.drop k ++ dr.take k, by simp; omega, fun n h => ?_, ?_⟩
  · rcases List.mem_append.mp h with h | h
    · exact hp n (List.mem_of_mem_drop h)
    · exact hp n (List.mem_of_mem_take h)
  · have ha := add_l (x := (dr.drop k).map PyData.int) (y := (dr.take k).map PyData.int) (by
      show _ ≤ 2 ^ 24
      simp only [List.length_map, List.length_drop, List.length_take]; omega)
    simp only [nums, cut_l, cut_from, cut_to, o2_some, List.map_drop, List.map_take, List.map_append] at ha ⊢
    exact ha
theorem rng_mem : ∀ {m : Nat} {lo : Int} {d : D}, d ∈ rngL m lo → ∃ k : Nat, k < m ∧ d = .int (lo + k)
  | 0, _, _, h => by cases h
  | m + 1, lo, d, h => by
    rcases List.mem_cons.mp h with rfl | h
    · exact ⟨0, by omega, by simp⟩
    · obtain ⟨k, h1, rfl⟩ := rng_mem h
      exact ⟨k + 1, by omega, by simp; omega⟩
theorem rng_len : ∀ (m : Nat) (lo : Int), (rngL m lo).length = m
  | 0, _ => rfl
  | m + 1, lo => by simp [rngL, rng_len m]
structure Small (deep : Nat) (d : D) : Prop where
  pl : Pl d = true
  sz : sz d ≤ 4 ^ (5 - deep)
  dp : d.depth ≤ 5 - deep
theorem thing_ok : ∀ (n deep : Nat) (dr : List Int), deep ≤ 4 → 5 ≤ n + deep → dr.length = 60 → (∀ k ∈ dr, 0 ≤ k) → ∃ d, Mi.mf_law_thing n [nums dr, .int (deep : Int)] = some d ∧ Small deep d
  | 0, deep, _, h1, h2, _, _ => absurd h2 (by omega)
  | n + 1, deep, dr, hde, hn, hl, hp => by
    have at_ : ∀ j : Nat, j ≤ 4 → ∃ x, 0 ≤ x ∧ L2.atI (dr.map PyData.int) (((deep + j : Nat)) : Int) = some (.int x) := fun j hj => by
      obtain ⟨x, h1, _, h2⟩ := nums_at (ns := dr) (i := ((deep + j : Nat) : Int)) (by omega) (by omega)
      exact ⟨x, hp x h1, h2⟩
    obtain ⟨x0, _, q0⟩ := at_ 0 (by omega)
    obtain ⟨x1, _, q1⟩ := at_ 1 (by omega)
    obtain ⟨x2, _, q2⟩ := at_ 2 (by omega)
    obtain ⟨x3, _, q3⟩ := at_ 3 (by omega)
    obtain ⟨x4, _, q4⟩ := at_ 4 (by omega)
    rw [show ((deep + 0 : Nat) : Int) = (deep : Int) by simp] at q0
    rw [show ((deep + 1 : Nat) : Int) = (deep : Int) + 1 by omega] at q1
    rw [show ((deep + 2 : Nat) : Int) = (deep : Int) + 2 by omega] at q2
    rw [show ((deep + 3 : Nat) : Int) = (deep : Int) + 3 by omega] at q3
    rw [show ((deep + 4 : Nat) : Int) = (deep : Int) + 4 by omega] at q4
    obtain ⟨E, hE⟩ : ∃ E : Int, powD (.int 10) (.int 39) = some (.int E) := ⟨_, pow_ok (by decide) (by decide) (by decide)⟩
    have m12 : ∀ i : Int, modD (.int i) (.int 12) = some (.int (i % 12)) := fun i => mod_ok (by decide)
    have m3 : ∀ i : Int, modD (.int i) (.int 3) = some (.int (i % 3)) := fun i => mod_ok (by decide)
    have m4 : ∀ i : Int, modD (.int i) (.int 4) = some (.int (i % 4)) := fun i => mod_ok (by decide)
    have m8 : ∀ i : Int, modD (.int i) (.int 8) = some (.int (i % 8)) := fun i => mod_ok (by decide)
    have k0 := Int.emod_nonneg x0 (b := 12) (by decide)
    have k4 := Int.emod_nonneg x4 (b := 4) (by decide)
    have k5 := Int.emod_lt_of_pos x4 (b := 4) (by decide)
    have k8 := Int.emod_nonneg x3 (b := 8) (by decide)
    have k9 := Int.emod_lt_of_pos x3 (b := 8) (by decide)
    obtain ⟨far, _, hfar⟩ := pick3 (x1 % 12 - 2) (0 - E) E x2
    have flat : ∀ d : D, flatD d = true → Pl d = true → Small deep d := fun d h hp => ⟨hp, by
      have : sz d = 1 := by cases d <;> first | rfl | cases h
      rw [this]; exact Nat.one_le_pow _ _ (by decide), by
      have : d.depth = 0 := by cases d <;> first | rfl | cases h
      rw [this]; exact Nat.zero_le _⟩
    by_cases c1 : x0 % 12 < 4
    · refine ⟨.int far, ?_, flat _ rfl rfl⟩
      simp only [e_run, e_seq, seq_nx, seq_rt, seq_none, e_skip, e_set, e_own, nxK_some, vK_some, oK_some, e_ret, rtK_some, e_if, ifK_some, e_fVar, e_bVar, va_val, vb_val, vb_own, vb_bor, at_0, at_S, set_0, set_S, e_K, e_f1, o1_some, e_f2, o2_some, e_and, and_t, and_f, and_b, e_or, or_b, e_tOf, to_b, e_tAnd, tand_b, e_tOr, tor_b, e_tNot, not_b, e_tYes, e_fIf, fif_b, e_nil, e_cons, cons_some, e_tup, tup_some, e_lst, lst_some, e_call, call_some, e_m1, e_m2, e_sSeq, seqs_l, seqs_t, seqs_s, e_for, for_some, e_asg, tg_some, e_gN, e_gT2, e_gT3, e_frz, frz_own, e_retOwn, ch_b, e_lc, co_some, lc_some, wipe_nil, wipe_cons, end_rt, end_nx, pt_none, pt_some, int_some, e_cut, cut_l, cut_t, e_app, e_sRng, pad_0, sl_f, sl_t, sl_nil, add_i, sub_i, lt_i, le_i, gt_i, ge_i, neg_i, not_d, len_l, len_t, ix_l, ix_t, max2_i, min2_i, tup_l, tup_t, lst_l, lst_t, rev_l, rev_t, bool_i, bool_b, int_b, isn_n, e_chain, e_par, e_m3, List.length_cons, List.length_nil, List.replicate, List.cons_append, List.nil_append, Option.map_some, Nat.reduceAdd, Nat.reduceSub, Nat.zero_add, if_true, if_false, ite_true, ite_false, Bool.false_eq_true, reduceCtorEq, decide_true, decide_false, not_true, not_false_iff, Bool.not_true, Bool.not_false, Bool.and_true, Bool.true_and, Bool.and_false, Bool.false_and, Bool.or_true, Bool.true_or, Bool.or_false, Bool.false_or, Mi.mf_law_thing, Mi.G_law_thing, nums, q0, q1, q2, hE, m12, m3, hfar, c1]
    · by_cases c2 : (3 : Int) < deep
      · refine ⟨.int far, ?_, flat _ rfl rfl⟩
        simp only [e_run, e_seq, seq_nx, seq_rt, seq_none, e_skip, e_set, e_own, nxK_some, vK_some, oK_some, e_ret, rtK_some, e_if, ifK_some, e_fVar, e_bVar, va_val, vb_val, vb_own, vb_bor, at_0, at_S, set_0, set_S, e_K, e_f1, o1_some, e_f2, o2_some, e_and, and_t, and_f, and_b, e_or, or_b, e_tOf, to_b, e_tAnd, tand_b, e_tOr, tor_b, e_tNot, not_b, e_tYes, e_fIf, fif_b, e_nil, e_cons, cons_some, e_tup, tup_some, e_lst, lst_some, e_call, call_some, e_m1, e_m2, e_sSeq, seqs_l, seqs_t, seqs_s, e_for, for_some, e_asg, tg_some, e_gN, e_gT2, e_gT3, e_frz, frz_own, e_retOwn, ch_b, e_lc, co_some, lc_some, wipe_nil, wipe_cons, end_rt, end_nx, pt_none, pt_some, int_some, e_cut, cut_l, cut_t, e_app, e_sRng, pad_0, sl_f, sl_t, sl_nil, add_i, sub_i, lt_i, le_i, gt_i, ge_i, neg_i, not_d, len_l, len_t, ix_l, ix_t, max2_i, min2_i, tup_l, tup_t, lst_l, lst_t, rev_l, rev_t, bool_i, bool_b, int_b, isn_n, e_chain, e_par, e_m3, List.length_cons, List.length_nil, List.replicate, List.cons_append, List.nil_append, Option.map_some, Nat.reduceAdd, Nat.reduceSub, Nat.zero_add, if_true, if_false, ite_true, ite_false, Bool.false_eq_true, reduceCtorEq, decide_true, decide_false, not_true, not_false_iff, Bool.not_true, Bool.not_false, Bool.and_true, Bool.true_and, Bool.and_false, Bool.false_and, Bool.or_true, Bool.true_or, Bool.or_false, Bool.false_or, Mi.mf_law_thing, Mi.G_law_thing, nums, q0, q1, q2, hE, m12, m3, hfar, c1, c2]
      · by_cases c3 : x0 % 12 < 7
        · obtain ⟨d, h1, h2⟩ := atI_mem (xs := [PyData.bool true, .bool false, .none]) (i := x0 % 12 - 4) (by omega) (by simp only [List.length_cons, List.length_nil]; omega)
          refine ⟨d, ?_, ?_⟩
          · simp only [e_run, e_seq, seq_nx, seq_rt, seq_none, e_skip, e_set, e_own, nxK_some, vK_some, oK_some, e_ret, rtK_some, e_if, ifK_some, e_fVar, e_bVar, va_val, vb_val, vb_own, vb_bor, at_0, at_S, set_0, set_S, e_K, e_f1, o1_some, e_f2, o2_some, e_and, and_t, and_f, and_b, e_or, or_b, e_tOf, to_b, e_tAnd, tand_b, e_tOr, tor_b, e_tNot, not_b, e_tYes, e_fIf, fif_b, e_nil, e_cons, cons_some, e_tup, tup_some, e_lst, lst_some, e_call, call_some, e_m1, e_m2, e_sSeq, seqs_l, seqs_t, seqs_s, e_for, for_some, e_asg, tg_some, e_gN, e_gT2, e_gT3, e_frz, frz_own, e_retOwn, ch_b, e_lc, co_some, lc_some, wipe_nil, wipe_cons, end_rt, end_nx, pt_none, pt_some, int_some, e_cut, cut_l, cut_t, e_app, e_sRng, pad_0, sl_f, sl_t, sl_nil, add_i, sub_i, lt_i, le_i, gt_i, ge_i, neg_i, not_d, len_l, len_t, ix_l, ix_t, max2_i, min2_i, tup_l, tup_t, lst_l, lst_t, rev_l, rev_t, bool_i, bool_b, int_b, isn_n, e_chain, e_par, e_m3, List.length_cons, List.length_nil, List.replicate, List.cons_append, List.nil_append, Option.map_some, Nat.reduceAdd, Nat.reduceSub, Nat.zero_add, if_true, if_false, ite_true, ite_false, Bool.false_eq_true, reduceCtorEq, decide_true, decide_false, not_true, not_false_iff, Bool.not_true, Bool.not_false, Bool.and_true, Bool.true_and, Bool.and_false, Bool.false_and, Bool.or_true, Bool.true_or, Bool.or_false, Bool.false_or, Mi.mf_law_thing, Mi.G_law_thing, nums, q0, q1, q2, hE, m12, m3, hfar, c1, c2, c3, h2]
          · simp only [List.mem_cons, List.not_mem_nil, or_false] at h1
            rcases h1 with rfl | rfl | rfl <;> exact flat _ rfl rfl
        · by_cases c4 : x0 % 12 < 9
          · obtain ⟨d, h1, h2⟩ := atI_mem (xs := [PyData.str "", .str "0", .str "1-0", .str "hall", .str "3", .str "none", .str "1:", .str "~"]) (i := x3 % 8) (by omega) (by simp only [List.length_cons, List.length_nil]; omega)
            refine ⟨d, ?_, ?_⟩
            · simp only [e_run, e_seq, seq_nx, seq_rt, seq_none, e_skip, e_set, e_own, nxK_some, vK_some, oK_some, e_ret, rtK_some, e_if, ifK_some, e_fVar, e_bVar, va_val, vb_val, vb_own, vb_bor, at_0, at_S, set_0, set_S, e_K, e_f1, o1_some, e_f2, o2_some, e_and, and_t, and_f, and_b, e_or, or_b, e_tOf, to_b, e_tAnd, tand_b, e_tOr, tor_b, e_tNot, not_b, e_tYes, e_fIf, fif_b, e_nil, e_cons, cons_some, e_tup, tup_some, e_lst, lst_some, e_call, call_some, e_m1, e_m2, e_sSeq, seqs_l, seqs_t, seqs_s, e_for, for_some, e_asg, tg_some, e_gN, e_gT2, e_gT3, e_frz, frz_own, e_retOwn, ch_b, e_lc, co_some, lc_some, wipe_nil, wipe_cons, end_rt, end_nx, pt_none, pt_some, int_some, e_cut, cut_l, cut_t, e_app, e_sRng, pad_0, sl_f, sl_t, sl_nil, add_i, sub_i, lt_i, le_i, gt_i, ge_i, neg_i, not_d, len_l, len_t, ix_l, ix_t, max2_i, min2_i, tup_l, tup_t, lst_l, lst_t, rev_l, rev_t, bool_i, bool_b, int_b, isn_n, e_chain, e_par, e_m3, List.length_cons, List.length_nil, List.replicate, List.cons_append, List.nil_append, Option.map_some, Nat.reduceAdd, Nat.reduceSub, Nat.zero_add, if_true, if_false, ite_true, ite_false, Bool.false_eq_true, reduceCtorEq, decide_true, decide_false, not_true, not_false_iff, Bool.not_true, Bool.not_false, Bool.and_true, Bool.true_and, Bool.and_false, Bool.false_and, Bool.or_true, Bool.true_or, Bool.or_false, Bool.false_or, Mi.mf_law_thing, Mi.G_law_thing, nums, q0, q1, q2, q3, hE, m12, m3, m8, hfar, c1, c2, c3, c4, h2]
            · simp only [List.mem_cons, List.not_mem_nil, or_false] at h1
              rcases h1 with rfl | rfl | rfl | rfl | rfl | rfl | rfl | rfl <;> exact flat _ rfl (by decide)
          · have hde2 : deep + 1 ≤ 4 := by omega
            obtain ⟨M, hM⟩ : ∃ M : Nat, (M : Int) = x4 % 4 := ⟨(x4 % 4).toNat, by omega⟩
            obtain ⟨ys, g1, g2, g3⟩ := compL_ex (tg := gN 5) (e := fCall (Mi.mf_law_thing n) [f2 addD (fCut (bVar 0) (some (bVar 5)) none) (fCut (bVar 0) none (some (bVar 5))), f2 addD (bVar 1) (fK (.int 1))])
              (ρ := [.val (nums dr), .val (.int (deep : Int)), .val (.int (x0 % 12)), .val (.int far), .no, .no]) (P := fun _ y => Small (deep + 1) y) (ds := rngL M 0) fun d hd => by
                obtain ⟨k, _, rfl⟩ := rng_mem hd
                obtain ⟨dr', l1, l2, l3⟩ := rot_ok k hl hp
                obtain ⟨y, w1, w2⟩ := thing_ok n (deep + 1) dr' hde2 (by omega) l1 l2
                refine ⟨_, y, rfl, ?_, w2⟩
                rw [show ((deep + 1 : Nat) : Int) = (deep : Int) + 1 by omega] at w1
                simp only [e_run, e_seq, seq_nx, seq_rt, seq_none, e_skip, e_set, e_own, nxK_some, vK_some, oK_some, e_ret, rtK_some, e_if, ifK_some, e_fVar, e_bVar, va_val, vb_val, vb_own, vb_bor, at_0, at_S, set_0, set_S, e_K, e_f1, o1_some, e_f2, o2_some, e_and, and_t, and_f, and_b, e_or, or_b, e_tOf, to_b, e_tAnd, tand_b, e_tOr, tor_b, e_tNot, not_b, e_tYes, e_fIf, fif_b, e_nil, e_cons, cons_some, e_tup, tup_some, e_lst, lst_some, e_call, call_some, e_m1, e_m2, e_sSeq, seqs_l, seqs_t, seqs_s, e_for, for_some, e_asg, tg_some, e_gN, e_gT2, e_gT3, e_frz, frz_own, e_retOwn, ch_b, e_lc, co_some, lc_some, wipe_nil, wipe_cons, end_rt, end_nx, pt_none, pt_some, int_some, e_cut, cut_l, cut_t, e_app, e_sRng, pad_0, sl_f, sl_t, sl_nil, add_i, sub_i, lt_i, le_i, gt_i, ge_i, neg_i, not_d, len_l, len_t, ix_l, ix_t, max2_i, min2_i, tup_l, tup_t, lst_l, lst_t, rev_l, rev_t, bool_i, bool_b, int_b, isn_n, e_chain, e_par, e_m3, List.length_cons, List.length_nil, List.replicate, List.cons_append, List.nil_append, Option.map_some, Nat.reduceAdd, Nat.reduceSub, Nat.zero_add, if_true, if_false, ite_true, ite_false, Bool.false_eq_true, reduceCtorEq, decide_true, decide_false, not_true, not_false_iff, Bool.not_true, Bool.not_false, Bool.and_true, Bool.true_and, Bool.and_false, Bool.false_and, Bool.or_true, Bool.true_or, Bool.or_false, Bool.false_or, Int.zero_add, l3, w1]
            rw [rng_len] at g2
            have hM4 : M < 4 := by omega
            have hf : fitsL ys.length = true := fitsL_small (by omega)
            have sm := rng_some (j := (M : Int)) (by omega) (by omega)
            have hsm : ∀ y ∈ ys, Small (deep + 1) y := fun y h => (g3 y h).choose_spec.2
            have hpl : Pls ys = true := Pls_iff.mpr fun y h => (hsm y h).pl
            have hsz : szs ys ≤ ys.length * 4 ^ (5 - (deep + 1)) := by
              have : ∀ l : List D, (∀ y ∈ l, sz y ≤ 4 ^ (5 - (deep + 1))) → szs l ≤ l.length * 4 ^ (5 - (deep + 1)) := fun l h => by
                induction l with
                | nil => simp [szs]
                | cons a l ih =>
                  have h1 := h a List.mem_cons_self
                  have h2 := ih fun y m => h y (List.mem_cons_of_mem _ m)
                  simp only [szs, List.length_cons, Nat.succ_mul]
                  omega
              exact this ys fun y h => (hsm y h).sz
            have hdp : PyData.depthAll ys ≤ 5 - (deep + 1) := dAll_le fun y h => (hsm y h).dp
            have hpow : 4 ^ (5 - deep) = 4 * 4 ^ (5 - (deep + 1)) := by
              rw [show 5 - deep = (5 - (deep + 1)) + 1 by omega, Nat.pow_succ]; omega
            have h1p : 1 ≤ 4 ^ (5 - (deep + 1)) := Nat.one_le_pow _ _ (by decide)
            have hmul : ys.length * 4 ^ (5 - (deep + 1)) ≤ 3 * 4 ^ (5 - (deep + 1)) := Nat.mul_le_mul_right _ (by omega)
            by_cases c5 : x0 % 12 = 9
            · refine ⟨.list ys, ?_, ⟨hpl, by simp only [sz]; omega, by simp only [PyData.depth]; omega⟩⟩
              simp only [e_run, e_seq, seq_nx, seq_rt, seq_none, e_skip, e_set, e_own, nxK_some, vK_some, oK_some, e_ret, rtK_some, e_if, ifK_some, e_fVar, e_bVar, va_val, vb_val, vb_own, vb_bor, at_0, at_S, set_0, set_S, e_K, e_f1, o1_some, e_f2, o2_some, e_and, and_t, and_f, and_b, e_or, or_b, e_tOf, to_b, e_tAnd, tand_b, e_tOr, tor_b, e_tNot, not_b, e_tYes, e_fIf, fif_b, e_nil, e_cons, cons_some, e_tup, tup_some, e_lst, lst_some, e_call, call_some, e_m1, e_m2, e_sSeq, seqs_l, seqs_t, seqs_s, e_for, for_some, e_asg, tg_some, e_gN, e_gT2, e_gT3, e_frz, frz_own, e_retOwn, ch_b, e_lc, co_some, lc_some, wipe_nil, wipe_cons, end_rt, end_nx, pt_none, pt_some, int_some, e_cut, cut_l, cut_t, e_app, e_sRng, pad_0, sl_f, sl_t, sl_nil, add_i, sub_i, lt_i, le_i, gt_i, ge_i, neg_i, not_d, len_l, len_t, ix_l, ix_t, max2_i, min2_i, tup_l, tup_t, lst_l, lst_t, rev_l, rev_t, bool_i, bool_b, int_b, isn_n, e_chain, e_par, e_m3, List.length_cons, List.length_nil, List.replicate, List.cons_append, List.nil_append, Option.map_some, Nat.reduceAdd, Nat.reduceSub, Nat.zero_add, if_true, if_false, ite_true, ite_false, Bool.false_eq_true, reduceCtorEq, decide_true, decide_false, not_true, not_false_iff, Bool.not_true, Bool.not_false, Bool.and_true, Bool.true_and, Bool.and_false, Bool.false_and, Bool.or_true, Bool.true_or, Bool.or_false, Bool.false_or, Mi.mf_law_thing, Mi.G_law_thing, nums, q0, q1, q2, q4, hE, m12, m3, m4, hfar, c1, c2, c3, c4]
              simp only [nums, ← hM] at g1 ⊢
              simp only [e_run, e_seq, seq_nx, seq_rt, seq_none, e_skip, e_set, e_own, nxK_some, vK_some, oK_some, e_ret, rtK_some, e_if, ifK_some, e_fVar, e_bVar, va_val, vb_val, vb_own, vb_bor, at_0, at_S, set_0, set_S, e_K, e_f1, o1_some, e_f2, o2_some, e_and, and_t, and_f, and_b, e_or, or_b, e_tOf, to_b, e_tAnd, tand_b, e_tOr, tor_b, e_tNot, not_b, e_tYes, e_fIf, fif_b, e_nil, e_cons, cons_some, e_tup, tup_some, e_lst, lst_some, e_call, call_some, e_m1, e_m2, e_sSeq, seqs_l, seqs_t, seqs_s, e_for, for_some, e_asg, tg_some, e_gN, e_gT2, e_gT3, e_frz, frz_own, e_retOwn, ch_b, e_lc, co_some, lc_some, wipe_nil, wipe_cons, end_rt, end_nx, pt_none, pt_some, int_some, e_cut, cut_l, cut_t, e_app, e_sRng, pad_0, sl_f, sl_t, sl_nil, add_i, sub_i, lt_i, le_i, gt_i, ge_i, neg_i, not_d, len_l, len_t, ix_l, ix_t, max2_i, min2_i, tup_l, tup_t, lst_l, lst_t, rev_l, rev_t, bool_i, bool_b, int_b, isn_n, e_chain, e_par, e_m3, List.length_cons, List.length_nil, List.replicate, List.cons_append, List.nil_append, Option.map_some, Nat.reduceAdd, Nat.reduceSub, Nat.zero_add, if_true, if_false, ite_true, ite_false, Bool.false_eq_true, reduceCtorEq, decide_true, decide_false, not_true, not_false_iff, Bool.not_true, Bool.not_false, Bool.and_true, Bool.true_and, Bool.and_false, Bool.false_and, Bool.or_true, Bool.true_or, Bool.or_false, Bool.false_or, sm, Int.toNat_natCast, g1, hf, eq_i, show (x0 % 12 == 9) = true by simpa using c5]
            · refine ⟨.tuple ys, ?_, ⟨hpl, by simp only [sz]; omega, by simp only [PyData.depth]; omega⟩⟩
              simp only [e_run, e_seq, seq_nx, seq_rt, seq_none, e_skip, e_set, e_own, nxK_some, vK_some, oK_some, e_ret, rtK_some, e_if, ifK_some, e_fVar, e_bVar, va_val, vb_val, vb_own, vb_bor, at_0, at_S, set_0, set_S, e_K, e_f1, o1_some, e_f2, o2_some, e_and, and_t, and_f, and_b, e_or, or_b, e_tOf, to_b, e_tAnd, tand_b, e_tOr, tor_b, e_tNot, not_b, e_tYes, e_fIf, fif_b, e_nil, e_cons, cons_some, e_tup, tup_some, e_lst, lst_some, e_call, call_some, e_m1, e_m2, e_sSeq, seqs_l, seqs_t, seqs_s, e_for, for_some, e_asg, tg_some, e_gN, e_gT2, e_gT3, e_frz, frz_own, e_retOwn, ch_b, e_lc, co_some, lc_some, wipe_nil, wipe_cons, end_rt, end_nx, pt_none, pt_some, int_some, e_cut, cut_l, cut_t, e_app, e_sRng, pad_0, sl_f, sl_t, sl_nil, add_i, sub_i, lt_i, le_i, gt_i, ge_i, neg_i, not_d, len_l, len_t, ix_l, ix_t, max2_i, min2_i, tup_l, tup_t, lst_l, lst_t, rev_l, rev_t, bool_i, bool_b, int_b, isn_n, e_chain, e_par, e_m3, List.length_cons, List.length_nil, List.replicate, List.cons_append, List.nil_append, Option.map_some, Nat.reduceAdd, Nat.reduceSub, Nat.zero_add, if_true, if_false, ite_true, ite_false, Bool.false_eq_true, reduceCtorEq, decide_true, decide_false, not_true, not_false_iff, Bool.not_true, Bool.not_false, Bool.and_true, Bool.true_and, Bool.and_false, Bool.false_and, Bool.or_true, Bool.true_or, Bool.or_false, Bool.false_or, Mi.mf_law_thing, Mi.G_law_thing, nums, q0, q1, q2, q4, hE, m12, m3, m4, hfar, c1, c2, c3, c4]
              simp only [nums, ← hM] at g1 ⊢
              simp only [e_run, e_seq, seq_nx, seq_rt, seq_none, e_skip, e_set, e_own, nxK_some, vK_some, oK_some, e_ret, rtK_some, e_if, ifK_some, e_fVar, e_bVar, va_val, vb_val, vb_own, vb_bor, at_0, at_S, set_0, set_S, e_K, e_f1, o1_some, e_f2, o2_some, e_and, and_t, and_f, and_b, e_or, or_b, e_tOf, to_b, e_tAnd, tand_b, e_tOr, tor_b, e_tNot, not_b, e_tYes, e_fIf, fif_b, e_nil, e_cons, cons_some, e_tup, tup_some, e_lst, lst_some, e_call, call_some, e_m1, e_m2, e_sSeq, seqs_l, seqs_t, seqs_s, e_for, for_some, e_asg, tg_some, e_gN, e_gT2, e_gT3, e_frz, frz_own, e_retOwn, ch_b, e_lc, co_some, lc_some, wipe_nil, wipe_cons, end_rt, end_nx, pt_none, pt_some, int_some, e_cut, cut_l, cut_t, e_app, e_sRng, pad_0, sl_f, sl_t, sl_nil, add_i, sub_i, lt_i, le_i, gt_i, ge_i, neg_i, not_d, len_l, len_t, ix_l, ix_t, max2_i, min2_i, tup_l, tup_t, lst_l, lst_t, rev_l, rev_t, bool_i, bool_b, int_b, isn_n, e_chain, e_par, e_m3, List.length_cons, List.length_nil, List.replicate, List.cons_append, List.nil_append, Option.map_some, Nat.reduceAdd, Nat.reduceSub, Nat.zero_add, if_true, if_false, ite_true, ite_false, Bool.false_eq_true, reduceCtorEq, decide_true, decide_false, not_true, not_false_iff, Bool.not_true, Bool.not_false, Bool.and_true, Bool.true_and, Bool.and_false, Bool.false_and, Bool.or_true, Bool.true_or, Bool.or_false, Bool.false_or, sm, Int.toNat_natCast, g1, hf, eq_i, show (x0 % 12 == 9) = false by simpa using c5]
end Fact
set_option maxRecDepth 100000
/-! The law k01. -/
namespace Fact
open PySem Pu
structure Fi (k s : Nat) (d : D) : Prop where
  pl : Pl d = true
  dp : d.depth ≤ k
  sz : sz d ≤ s
theorem Fi.mono {k s k' s' : Nat} {d : D} (f : Fi k s d) (h1 : k ≤ k') (h2 : s ≤ s') : Fi k' s' d := ⟨f.pl, Nat.le_trans f.dp h1, Nat.le_trans f.sz h2⟩
theorem szs_le {ds : List D} {s : Nat} (h : ∀ d ∈ ds, sz d ≤ s) : szs ds ≤ ds.length * s := by
  induction ds with
  | nil => simp [szs]
  | cons a l ih =>
    have h1 := h a List.mem_cons_self
    have h2 := ih fun y m => h y (List.mem_cons_of_mem _ m)
    simp only [szs, List.length_cons, Nat.succ_mul]
    omega
theorem Fi.tup {ds : List D} {k s m : Nat} (h : ∀ d ∈ ds, Fi k s d) (hl : ds.length ≤ m) : Fi (k + 1) (m * s + 1) (.tuple ds) :=
  ⟨Pls_iff.mpr fun d m => (h d m).pl, by simp only [PyData.depth]; exact Nat.succ_le_succ (dAll_le fun d m => (h d m).dp), by
    simp only [Fact.sz]
    have := szs_le fun d m => (h d m).sz
    have h2 := Nat.mul_le_mul_right s hl
    omega⟩
theorem Fi.lst {ds : List D} {k s m : Nat} (h : ∀ d ∈ ds, Fi k s d) (hl : ds.length ≤ m) : Fi (k + 1) (m * s + 1) (.list ds) :=
  have t := Fi.tup h hl
  ⟨t.pl, t.dp, t.sz⟩
theorem fi_two {k s : Nat} {a b : D} (ha : Fi k s a) (hb : Fi k s b) : Fi (k + 1) (2 * s + 1) (.tuple [a, b]) := Fi.tup (by simp [ha, hb]) (by simp)
theorem fi_one {k s : Nat} {a : D} (ha : Fi k s a) : Fi (k + 1) (1 * s + 1) (.tuple [a]) := Fi.tup (by simp [ha]) (by simp)
theorem fi_three {k s : Nat} {a b c : D} (ha : Fi k s a) (hb : Fi k s b) (hc : Fi k s c) : Fi (k + 1) (3 * s + 1) (.tuple [a, b, c]) := Fi.tup (by simp [ha, hb, hc]) (by simp)
mutual
theorem cd_pl : ∀ c : Cd, (∀ s ∈ c.ss, s.1.length ≤ 100) → Pl c.d = true
  | .one x n, h => by have := h (x, n) (by simp [Cd.ss]); simp [Cd.d, Pl, Pls, this]
  | .tie ps, h => by simp only [Cd.d, Pl]; exact cds_pl ps (by simpa only [Cd.ss] using h)
theorem cds_pl : ∀ cs : List Cd, (∀ s ∈ Cd.sss cs, s.1.length ≤ 100) → Pls (Cd.ds cs) = true
  | [], _ => rfl
  | c :: cs, h => by
    simp only [Cd.ds, Pls, Bool.and_eq_true]
    exact ⟨cd_pl c fun s m => h s (by simp only [Cd.sss]; exact List.mem_append_left _ m), cds_pl cs fun s m => h s (by simp only [Cd.sss]; exact List.mem_append_right _ m)⟩
end
mutual
theorem cd_depth : ∀ c : Cd, c.d.depth ≤ c.dp + 1
  | .one x n => Nat.le_refl _
  | .tie ps => by
    simp only [Cd.d, PyData.depth, Cd.dp]
    have := cds_depth ps
    omega
theorem cds_depth : ∀ cs : List Cd, PyData.depthAll (Cd.ds cs) ≤ Cd.dps cs + 1
  | [] => Nat.zero_le _
  | c :: cs => by
    have := cd_depth c
    have := cds_depth cs
    simp only [Cd.ds, PyData.depthAll, Cd.dps]
    omega
end
mutual
theorem cd_sz : ∀ c : Cd, c.ok → sz c.d + 1 ≤ 4 * c.ss.length
  | .one x n, _ => by simp [Cd.d, sz, szs, Cd.ss]
  | .tie ps, h => by
    obtain ⟨h1, h2⟩ := (by simpa only [Cd.ok] using h : 2 ≤ ps.length ∧ Cd.oks ps)
    have := cds_sz ps h2
    simp only [Cd.d, sz, Cd.ss]
    omega
theorem cds_sz : ∀ cs : List Cd, Cd.oks cs → szs (Cd.ds cs) + cs.length ≤ 4 * (Cd.sss cs).length
  | [], _ => by simp [Cd.ds, szs]
  | c :: cs, h => by
    obtain ⟨h1, h2⟩ := (by simpa only [Cd.oks] using h : c.ok ∧ Cd.oks cs)
    have a := cd_sz c h1
    have b := cds_sz cs h2
    simp only [Cd.ds, szs, Cd.sss, List.length_append, List.length_cons]
    omega
end
theorem base_short : ∀ x ∈ base8, x.length ≤ 100 := by decide
theorem cord_fi {c : Cd} (h1 : c.ok) (h2 : Good 8 c.ss) : Fi 8 31 c.d := by
  have a := Cd.ok_dp c h1
  have b := cd_sz c h1
  have := h2.len
  exact ⟨cd_pl c fun s m => base_short _ (h2.mem s m), by have := cd_depth c; omega, by omega⟩
def Fit (L : List D) : Prop := ∀ d ∈ L, Fi 12 5000 d
theorem Fit.app {a b : List D} (ha : Fit a) (hb : Fit b) : Fit (a ++ b) := fun d h => (List.mem_append.mp h).elim (ha d) (hb d)
theorem add_fit {a b : List D} (h : a.length + b.length ≤ 5000) : addD (.list a) (.list b) = some (.list (a ++ b)) := add_l (Nat.le_trans h (by decide))
def strT (c : Nat) : D := .tuple [.str ⟨#[c]⟩, .int 1]
def abc : List D := ("abcdefghi" : Str).cps.toList.map strT
theorem abc_fi : ∀ d ∈ abc, Fi 1 3 d := fun d h => by
  obtain ⟨c, _, rfl⟩ := List.mem_map.mp h
  exact ⟨rfl, Nat.le_refl _, Nat.le_refl _⟩
def odds : List D := [.tuple [.str "a", .int 0], .tuple [.str "a", .int 100], .tuple [.str "a", .int 99], .tuple [.str "", .int 1], .tuple [.str "abcdefghi", .int 1], .tuple [.str "A", .int 1], .tuple [.str "a", .bool true]]
def odds2 : List D := [.list [.str "a", .int 1], .tuple [.str "a", .int 1, .int 2]]
def allOdds : List D := odds ++ odds2
theorem odds_fi : ∀ d ∈ allOdds, Fi 1 4 d := by
  intro d h
  simp only [allOdds, odds, odds2, List.cons_append, List.nil_append, List.mem_cons, List.not_mem_nil, or_false] at h
  rcases h with rfl | rfl | rfl | rfl | rfl | rfl | rfl | rfl | rfl <;> exact ⟨by decide, by decide, by decide⟩
theorem truly_ok (b : Bool) : Mi.m_law_truly [.bool b, .bool b] = some (.bool true) := by
  have h : isInst .bool (.bool b) = some (.bool true) := rfl
  have h2 : eqD (.bool b) (.bool b) = some (.bool true) := by unfold eqD; rw [eqB_bool]; simp
  simp only [e_run, e_seq, seq_nx, seq_rt, seq_none, e_skip, e_set, e_own, nxK_some, vK_some, oK_some, e_ret, rtK_some, e_if, ifK_some, e_fVar, e_bVar, va_val, vb_val, vb_own, vb_bor, at_0, at_S, set_0, set_S, e_K, e_f1, o1_some, e_f2, o2_some, e_and, and_t, and_f, and_b, e_or, or_b, e_tOf, to_b, e_tAnd, tand_b, e_tOr, tor_b, e_tNot, not_b, e_tYes, e_fIf, fif_b, e_nil, e_cons, cons_some, e_tup, tup_some, e_lst, lst_some, e_call, call_some, e_m1, e_m2, e_sSeq, seqs_l, seqs_t, seqs_s, e_for, for_some, e_asg, tg_some, e_gN, e_gT2, e_gT3, e_frz, frz_own, e_retOwn, ch_b, e_lc, co_some, lc_some, wipe_nil, wipe_cons, end_rt, end_nx, pt_none, pt_some, int_some, e_cut, cut_l, cut_t, e_app, e_sRng, pad_0, sl_f, sl_t, sl_nil, add_i, sub_i, lt_i, le_i, gt_i, ge_i, neg_i, not_d, len_l, len_t, ix_l, ix_t, max2_i, min2_i, tup_l, tup_t, lst_l, lst_t, rev_l, rev_t, bool_i, bool_b, int_b, isn_n, e_chain, e_par, e_m3, List.length_cons, List.length_nil, List.replicate, List.cons_append, List.nil_append, Option.map_some, Nat.reduceAdd, Nat.reduceSub, Nat.zero_add, if_true, if_false, ite_true, ite_false, Bool.false_eq_true, reduceCtorEq, decide_true, decide_false, not_true, not_false_iff, Bool.not_true, Bool.not_false, Bool.and_true, Bool.true_and, Bool.and_false, Bool.false_and, Bool.or_true, Bool.true_or, Bool.or_false, Bool.false_or, Mi.m_law_truly, Mi.G_law_truly, h, h2]
theorem last_loop (s0 s1 s2 s4 s5 s6 s7 s8 s9 s10 s11 s12 : Pu.Slot) (L : List D) (hL : Fit L) :
    ∃ s, forL (gN 12) (Mi.B_law_4 Mi.m_law_truly Mi.m_is_cord Mi.m_law_is_cord) L [s0, s1, s2, .val (.list L), s4, s5, s6, s7, s8, s9, s10, s11, s12] = some (.nx [s0, s1, s2, .val (.list L), s4, s5, s6, s7, s8, s9, s10, s11, s]) := by
  obtain ⟨ρ', h1, s, rfl⟩ := forL_keep (tg := gN 12) (body := Mi.B_law_4 Mi.m_law_truly Mi.m_is_cord Mi.m_law_is_cord) (ds := L) (I := fun ρ => ∃ s, ρ = [s0, s1, s2, .val (.list L), s4, s5, s6, s7, s8, s9, s10, s11, s]) ⟨s12, rfl⟩ fun d ρ hd ⟨s, e⟩ => by
    subst e
    have f := hL d hd
    have e1 := is_cord_ok f.pl (Nat.lt_of_le_of_lt f.dp (by decide)) (Nat.le_trans f.sz (by decide))
    have e2 := law_is_cord_ok f.pl (Nat.lt_of_le_of_lt f.dp (by decide)) (Nat.le_trans f.sz (by decide))
    exact ⟨_, [s0, s1, s2, .val (.list L), s4, s5, s6, s7, s8, s9, s10, s11, .val d], rfl, by simp only [e_run, e_seq, seq_nx, seq_rt, seq_none, e_skip, e_set, e_own, nxK_some, vK_some, oK_some, e_ret, rtK_some, e_if, ifK_some, e_fVar, e_bVar, va_val, vb_val, vb_own, vb_bor, at_0, at_S, set_0, set_S, e_K, e_f1, o1_some, e_f2, o2_some, e_and, and_t, and_f, and_b, e_or, or_b, e_tOf, to_b, e_tAnd, tand_b, e_tOr, tor_b, e_tNot, not_b, e_tYes, e_fIf, fif_b, e_nil, e_cons, cons_some, e_tup, tup_some, e_lst, lst_some, e_call, call_some, e_m1, e_m2, e_sSeq, seqs_l, seqs_t, seqs_s, e_for, for_some, e_asg, tg_some, e_gN, e_gT2, e_gT3, e_frz, frz_own, e_retOwn, ch_b, e_lc, co_some, lc_some, wipe_nil, wipe_cons, end_rt, end_nx, pt_none, pt_some, int_some, e_cut, cut_l, cut_t, e_app, e_sRng, pad_0, sl_f, sl_t, sl_nil, add_i, sub_i, lt_i, le_i, gt_i, ge_i, neg_i, not_d, len_l, len_t, ix_l, ix_t, max2_i, min2_i, tup_l, tup_t, lst_l, lst_t, rev_l, rev_t, bool_i, bool_b, int_b, isn_n, e_chain, e_par, e_m3, List.length_cons, List.length_nil, List.replicate, List.cons_append, List.nil_append, Option.map_some, Nat.reduceAdd, Nat.reduceSub, Nat.zero_add, if_true, if_false, ite_true, ite_false, Bool.false_eq_true, reduceCtorEq, decide_true, decide_false, not_true, not_false_iff, Bool.not_true, Bool.not_false, Bool.and_true, Bool.true_and, Bool.and_false, Bool.false_and, Bool.or_true, Bool.true_or, Bool.or_false, Bool.false_or, Mi.B_law_4, e1, e2, truly_ok], _, rfl⟩
  exact ⟨s, h1⟩
theorem near_fi {k s : Nat} {d d' : D} (f : Fi k s d) (n : Near d d') : Fi (k + 1) (2 * s + 5) d' := ⟨n.pl, Nat.le_trans n.dp (Nat.succ_le_succ f.dp), by have := n.sz; have := f.sz; omega⟩
theorem inner_loop (s0 s1 s2 s4 s5 s6 s9 s10 s11 s12 : Pu.Slot) (dr : List Int) (c : D) (hc : Fi 8 31 c) (L : List D) (hL : Fit L) (hl : L.length ≤ 500) (hr : Row 60 27720 dr) :
    ∃ (M : List D) (a b e : Pu.Slot), Fit M ∧ M.length ≤ L.length + 36 ∧
      forL (gN 9) (Mi.B_law_2 Mi.m_law_bent Mi.m_law_thing) (rngL 12 0) [s0, s1, s2, .val (.list L), s4, s5, s6, .val (nums dr), .val c, s9, s10, s11, s12] = some (.nx [s0, s1, s2, .val (.list M), s4, s5, s6, .val (nums dr), .val c, a, b, e, s12]) := by
  have hpos : ∀ k ∈ dr, 0 ≤ k := fun k h => (hr.low k h).1
  obtain ⟨ρ', h1, M, a, b, e, h2, h3, rfl⟩ := forL_rng (tg := gN 9) (body := Mi.B_law_2 Mi.m_law_bent Mi.m_law_thing) (n := 12) (m := 12) (j := 0) (lo := 0)
    (I := fun j ρ => ∃ (M : List D) (a b e : Pu.Slot), Fit M ∧ M.length = L.length + 3 * j ∧ ρ = [s0, s1, s2, .val (.list M), s4, s5, s6, .val (nums dr), .val c, a, b, e, s12]) (by omega) ⟨L, _, _, _, hL, rfl, rfl⟩ fun j ρ _ hj ⟨M, a, b, e, h2, h3, hρ⟩ => by
      subst hρ
      have o : (0 : Int) + ((j - 0 : Nat) : Int) = j := by omega
      rw [o]
      have m4 : mulD (.int 4) (.int j) = some (.int (4 * j)) := mul_ok (Or.inl (by omega))
      let line := (dr.drop (4 * j)).take 5
      have hline : line.length = 5 := by have := hr.len; simp [line]; omega
      have hlp : ∀ k ∈ line, 0 ≤ k := fun k h => hpos k (List.mem_of_mem_drop (List.mem_of_mem_take h))
      have hcut : cutK (some (nums dr)) (some (some (4 * (j : Int)))) (some (some (4 * (j : Int) + 5))) = some (nums line) := by
        rw [show 4 * (j : Int) = ((4 * j : Nat) : Int) by omega, show ((4 * j : Nat) : Int) + 5 = ((4 * j + 5 : Nat) : Int) by omega]
        show some (PyData.list (cutL _ _ _)) = _
        rw [cut_mid _ _ _ (by omega) (by rw [List.length_map, hr.len]; omega), ← List.map_drop, ← List.map_take, Nat.add_sub_cancel_left]
        rfl
      obtain ⟨b1, g1, n1⟩ := bent_ok (d := c) (dr := line) hc.pl (Nat.lt_of_le_of_lt hc.dp (by decide)) (Nat.le_trans hc.sz (by decide)) (by omega) hlp
      have f1 := near_fi hc n1
      obtain ⟨b2, g2, n2⟩ := bent_ok (d := b1) (dr := line.reverse) f1.pl (Nat.lt_of_le_of_lt f1.dp (by decide)) (Nat.le_trans f1.sz (by decide)) (by rw [List.length_reverse]; omega) (fun k h => hlp k (List.mem_reverse.mp h))
      have f2 := near_fi f1 n2
      obtain ⟨dr', l1, l2, l3⟩ := rot_ok j hr.len hpos
      obtain ⟨t, g3, n3⟩ := thing_ok 24 0 dr' (by decide) (by decide) l1 l2
      replace g3 : Mi.m_law_thing _ = _ := g3
      have g3' : Mi.m_law_thing [nums dr', .int 0] = some t := g3
      have hrev : revD (nums line) = some (nums line.reverse) := by show some (PyData.list _) = _; rw [← List.map_reverse]; rfl
      have ha := add_fit (a := M) (b := [b1, b2, t]) (by simp only [List.length_cons, List.length_nil]; omega)
      refine ⟨_, [s0, s1, s2, .val (.list (M ++ [b1, b2, t])), s4, s5, s6, .val (nums dr), .val c, .val (.int j), .val (nums line), .val b1, s12], rfl, ?_, M ++ [b1, b2, t], _, _, _, ?_, by simp only [List.length_append, List.length_cons, List.length_nil]; omega, rfl⟩
      · simp only [e_run, e_seq, seq_nx, seq_rt, seq_none, e_skip, e_set, e_own, nxK_some, vK_some, oK_some, e_ret, rtK_some, e_if, ifK_some, e_fVar, e_bVar, va_val, vb_val, vb_own, vb_bor, at_0, at_S, set_0, set_S, e_K, e_f1, o1_some, e_f2, o2_some, e_and, and_t, and_f, and_b, e_or, or_b, e_tOf, to_b, e_tAnd, tand_b, e_tOr, tor_b, e_tNot, not_b, e_tYes, e_fIf, fif_b, e_nil, e_cons, cons_some, e_tup, tup_some, e_lst, lst_some, e_call, call_some, e_m1, e_m2, e_sSeq, seqs_l, seqs_t, seqs_s, e_for, for_some, e_asg, tg_some, e_gN, e_gT2, e_gT3, e_frz, frz_own, e_retOwn, ch_b, e_lc, co_some, lc_some, wipe_nil, wipe_cons, end_rt, end_nx, pt_none, pt_some, int_some, e_cut, cut_l, cut_t, e_app, e_sRng, pad_0, sl_f, sl_t, sl_nil, add_i, sub_i, lt_i, le_i, gt_i, ge_i, neg_i, not_d, len_l, len_t, ix_l, ix_t, max2_i, min2_i, tup_l, tup_t, lst_l, lst_t, rev_l, rev_t, bool_i, bool_b, int_b, isn_n, e_chain, e_par, e_m3, List.length_cons, List.length_nil, List.replicate, List.cons_append, List.nil_append, Option.map_some, Nat.reduceAdd, Nat.reduceSub, Nat.zero_add, if_true, if_false, ite_true, ite_false, Bool.false_eq_true, reduceCtorEq, decide_true, decide_false, not_true, not_false_iff, Bool.not_true, Bool.not_false, Bool.and_true, Bool.true_and, Bool.and_false, Bool.false_and, Bool.or_true, Bool.true_or, Bool.or_false, Bool.false_or, Mi.B_law_2, m4, hcut, g1, hrev, g2, l3, g3', ha]
      · refine h2.app fun d h => ?_
        simp only [List.mem_cons, List.not_mem_nil, or_false] at h
        rcases h with rfl | rfl | rfl
        · exact f1.mono (by decide) (by decide)
        · exact f2.mono (by decide) (by decide)
        · exact ⟨n3.pl, Nat.le_trans n3.dp (by decide), Nat.le_trans n3.sz (by decide)⟩
  exact ⟨M, a, b, e, h2, by omega, h1⟩
theorem law_true (ns : List Int) (hl : ns.length ≤ 63) : Mi.m_law [.list (ns.map .int)] = some (.bool true) := by
  have hc : compL (gN 2) tYes (fTup [fVar 2, fK (.int 1)]) [.val (nums ns), .no, .no, .no, .no, .no, .no, .no, .no, .no, .no, .no, .no] (("abcdefghi" : Str).cps.toList.map fun c => .str ⟨#[c]⟩) = some abc := compL_of fun c _ => ⟨_, rfl, by simp only [e_run, e_seq, seq_nx, seq_rt, seq_none, e_skip, e_set, e_own, nxK_some, vK_some, oK_some, e_ret, rtK_some, e_if, ifK_some, e_fVar, e_bVar, va_val, vb_val, vb_own, vb_bor, at_0, at_S, set_0, set_S, e_K, e_f1, o1_some, e_f2, o2_some, e_and, and_t, and_f, and_b, e_or, or_b, e_tOf, to_b, e_tAnd, tand_b, e_tOr, tor_b, e_tNot, not_b, e_tYes, e_fIf, fif_b, e_nil, e_cons, cons_some, e_tup, tup_some, e_lst, lst_some, e_call, call_some, e_m1, e_m2, e_sSeq, seqs_l, seqs_t, seqs_s, e_for, for_some, e_asg, tg_some, e_gN, e_gT2, e_gT3, e_frz, frz_own, e_retOwn, ch_b, e_lc, co_some, lc_some, wipe_nil, wipe_cons, end_rt, end_nx, pt_none, pt_some, int_some, e_cut, cut_l, cut_t, e_app, e_sRng, pad_0, sl_f, sl_t, sl_nil, add_i, sub_i, lt_i, le_i, gt_i, ge_i, neg_i, not_d, len_l, len_t, ix_l, ix_t, max2_i, min2_i, tup_l, tup_t, lst_l, lst_t, rev_l, rev_t, bool_i, bool_b, int_b, isn_n, e_chain, e_par, e_m3, List.length_cons, List.length_nil, List.replicate, List.cons_append, List.nil_append, Option.map_some, Nat.reduceAdd, Nat.reduceSub, Nat.zero_add, if_true, if_false, ite_true, ite_false, Bool.false_eq_true, reduceCtorEq, decide_true, decide_false, not_true, not_false_iff, Bool.not_true, Bool.not_false, Bool.and_true, Bool.true_and, Bool.and_false, Bool.false_and, Bool.or_true, Bool.true_or, Bool.or_false, Bool.false_or]; rfl⟩
  have labc : abc.length = 9 := by decide
  have hf : fitsL abc.length = true := fitsL_small (by rw [labc]; decide)
  have c8 : cutL abc none (some 8) = abc.take 8 := cut_to _ 8
  have c1 : cutL abc none (some 1) = abc.take 1 := cut_to _ 1
  have c2 : cutL abc none (some 2) = abc.take 2 := cut_to _ 2
  have c13 : cutL abc (some 1) (some 3) = (abc.drop 1).take 2 := cut_mid _ 1 3 (by decide) (by rw [labc]; decide)
  obtain ⟨x0, m0, e0⟩ := atI_mem (xs := abc) (i := 0) (by decide) (by rw [labc]; decide)
  have tk : ∀ k, ∀ d ∈ abc.take k, Fi 1 3 d := fun k d h => abc_fi d (List.mem_of_mem_take h)
  have f0 := abc_fi x0 m0
  have t13 : Fi 2 28 (.tuple ((abc.drop 1).take 2)) := (Fi.tup (m := 9) (fun d h => abc_fi d (List.mem_of_mem_drop (List.mem_of_mem_take h))) (by rw [List.length_take, List.length_drop, labc]; decide)).mono (by decide) (by decide)
  have tn : ∀ k, Fi 2 28 (.tuple (abc.take k)) := fun k => (Fi.tup (m := 9) (tk k) (by rw [List.length_take, labc]; omega)).mono (by decide) (by decide)
  have t9 : Fi 2 28 (.tuple abc) := (Fi.tup (m := 9) abc_fi (by rw [labc]; decide)).mono (by decide) (by decide)
  obtain ⟨L0, hL0⟩ : ∃ L0, L0 = [PyData.tuple abc, .tuple (abc.take 8), .tuple (abc.take 1), .tuple (abc.take 2), x0, .tuple [x0, .tuple ((abc.drop 1).take 2)], .tuple [.tuple (abc.take 2), .tuple (abc.take 2)], .tuple [.tuple (abc.take 2), .tuple ((abc.drop 1).take 2)]] := ⟨_, rfl⟩
  have F0 : Fit L0 := by
    intro d h
    rw [hL0] at h
    simp only [List.mem_cons, List.not_mem_nil, or_false] at h
    rcases h with rfl | rfl | rfl | rfl | rfl | rfl | rfl | rfl
    · exact t9.mono (by decide) (by decide)
    · exact (tn _).mono (by decide) (by decide)
    · exact (tn _).mono (by decide) (by decide)
    · exact (tn _).mono (by decide) (by decide)
    · exact f0.mono (by decide) (by decide)
    · exact (fi_two (f0.mono (by decide) (by decide)) t13).mono (by decide) (by decide)
    · exact (fi_two (tn _) (tn _)).mono (by decide) (by decide)
    · exact (fi_two (tn _) t13).mono (by decide) (by decide)
  have hodd : addD (.list odds) (.list odds2) = some (.list allOdds) := add_fit (by decide)
  have hb : Fi 1 4 (.tuple [.str "b", .int 1]) := ⟨by decide, by decide, by decide⟩
  -- the odd strands
  obtain ⟨ρ1, w1, L1, s5, F1, l1, rfl⟩ := forL_inv (tg := gN 5) (body := Mi.B_law_1) (full := allOdds) (ds := allOdds) (pre := []) (ρ := [.val (nums ns), .val (.tuple abc), .no, .val (.list L0), .val (.list odds), .no, .no, .no, .no, .no, .no, .no, .no])
    (I := fun pre ρ => ∃ (L : List D) (s : Pu.Slot), Fit L ∧ L.length = 8 + 3 * pre.length ∧ ρ = [.val (nums ns), .val (.tuple abc), .no, .val (.list L), .val (.list odds), s, .no, .no, .no, .no, .no, .no, .no]) rfl ⟨L0, _, F0, by rw [hL0]; rfl, rfl⟩ fun pre d post ρ e ⟨L, s, h2, h3, hρ⟩ => by
      subst hρ
      have hd := odds_fi d (by rw [e]; simp)
      have hpl : pre.length ≤ 9 := by have := congrArg List.length e; simp [allOdds, odds, odds2] at this; omega
      have ha := add_fit (a := L) (b := [d, .tuple [d, .tuple [.str "b", .int 1]], .tuple [.tuple [d], .tuple [.str "b", .int 1]]]) (by simp only [List.length_cons, List.length_nil]; omega)
      refine ⟨_, [.val (nums ns), .val (.tuple abc), .no, .val (.list (L ++ [d, .tuple [d, .tuple [.str "b", .int 1]], .tuple [.tuple [d], .tuple [.str "b", .int 1]]])), .val (.list odds), .val d, .no, .no, .no, .no, .no, .no, .no], rfl, ?_, _, _, ?_, ?_, rfl⟩
      · simp only [e_run, e_seq, seq_nx, seq_rt, seq_none, e_skip, e_set, e_own, nxK_some, vK_some, oK_some, e_ret, rtK_some, e_if, ifK_some, e_fVar, e_bVar, va_val, vb_val, vb_own, vb_bor, at_0, at_S, set_0, set_S, e_K, e_f1, o1_some, e_f2, o2_some, e_and, and_t, and_f, and_b, e_or, or_b, e_tOf, to_b, e_tAnd, tand_b, e_tOr, tor_b, e_tNot, not_b, e_tYes, e_fIf, fif_b, e_nil, e_cons, cons_some, e_tup, tup_some, e_lst, lst_some, e_call, call_some, e_m1, e_m2, e_sSeq, seqs_l, seqs_t, seqs_s, e_for, for_some, e_asg, tg_some, e_gN, e_gT2, e_gT3, e_frz, frz_own, e_retOwn, ch_b, e_lc, co_some, lc_some, wipe_nil, wipe_cons, end_rt, end_nx, pt_none, pt_some, int_some, e_cut, cut_l, cut_t, e_app, e_sRng, pad_0, sl_f, sl_t, sl_nil, add_i, sub_i, lt_i, le_i, gt_i, ge_i, neg_i, not_d, len_l, len_t, ix_l, ix_t, max2_i, min2_i, tup_l, tup_t, lst_l, lst_t, rev_l, rev_t, bool_i, bool_b, int_b, isn_n, e_chain, e_par, e_m3, List.length_cons, List.length_nil, List.replicate, List.cons_append, List.nil_append, Option.map_some, Nat.reduceAdd, Nat.reduceSub, Nat.zero_add, if_true, if_false, ite_true, ite_false, Bool.false_eq_true, reduceCtorEq, decide_true, decide_false, not_true, not_false_iff, Bool.not_true, Bool.not_false, Bool.and_true, Bool.true_and, Bool.and_false, Bool.false_and, Bool.or_true, Bool.true_or, Bool.or_false, Bool.false_or, Mi.B_law_1, ha]
      · refine h2.app fun z h => ?_
        simp only [List.mem_cons, List.not_mem_nil, or_false] at h
        rcases h with rfl | rfl | rfl
        · exact hd.mono (by decide) (by decide)
        · exact (fi_two hd hb).mono (by decide) (by decide)
        · exact (fi_two (fi_one hd) (hb.mono (by decide) (by decide))).mono (by decide) (by decide)
      · simp only [List.length_append, List.length_cons, List.length_nil]; omega
  have l1' : L1.length = 35 := l1
  have hz : Fi 8 31 (.tuple [.str "zed", .int 5]) := ⟨by decide, by decide, by decide⟩
  have hy : Fi 8 31 (.tuple [.str "yak", .int 5]) := ⟨by decide, by decide, by decide⟩
  -- the cords
  obtain ⟨ρ2, w2, L2, s6, s7, s8, s9, s10, s11, F2, l2, rfl⟩ := forL_inv (tg := gN 6) (body := Mi.B_law_3 Mi.m_law_draws Mi.m_law_cord Mi.m_law_bent Mi.m_law_thing) (full := [.int 0, .int 2, .int 4]) (ds := [.int 0, .int 2, .int 4]) (pre := []) (ρ := [.val (nums ns), .val (.tuple abc), .no, .val (.list L1), .val (.list odds), s5, .no, .no, .no, .no, .no, .no, .no])
    (I := fun pre ρ => ∃ (L : List D) (s6 s7 s8 s9 s10 s11 : Pu.Slot), Fit L ∧ L.length ≤ 35 + 42 * pre.length ∧ ρ = [.val (nums ns), .val (.tuple abc), .no, .val (.list L), .val (.list odds), s5, s6, s7, s8, s9, s10, s11, .no]) rfl ⟨L1, _, _, _, _, _, _, F1, by rw [l1']; exact Nat.le_refl _, rfl⟩ fun pre d post ρ e ⟨L, s6, s7, s8, s9, s10, s11, h2, h3, hρ⟩ => by
      subst hρ
      obtain ⟨k, hk, rfl⟩ : ∃ k : Nat, k ≤ 4 ∧ d = .int k := by
        have hm : d ∈ [PyData.int 0, .int 2, .int 4] := by rw [e]; simp
        simp only [List.mem_cons, List.not_mem_nil, or_false] at hm
        rcases hm with rfl | rfl | rfl
        · exact ⟨0, by decide, rfl⟩
        · exact ⟨2, by decide, rfl⟩
        · exact ⟨4, by decide, rfl⟩
      have hpl : pre.length ≤ 2 := by have := congrArg List.length e; simp at this; omega
      obtain ⟨dr, hr, g1⟩ := draws_ok ns k 60 27720 (by omega) (by decide) (by decide) (by decide)
      replace g1 : Mi.m_law_draws [nums ns, .int k, .int 60, .int 27720] = some (nums dr) := g1
      obtain ⟨c, g2, ok, good⟩ := cord_ok dr 8 (by rw [hr.len]; decide) (fun n h => (hr.low n h).1) (by decide) (by decide)
      replace g2 : Mi.m_law_cord [nums dr, .int 8] = some c.d := g2
      have fc := cord_fi ok good
      obtain ⟨cl, e2, fcl⟩ : ∃ cl, lstD c.d = some cl ∧ Fi 8 31 cl := by
        cases c with
        | one x n => exact ⟨_, rfl, fc.pl, fc.dp, fc.sz⟩
        | tie ps => exact ⟨_, rfl, fc.pl, fc.dp, fc.sz⟩
      obtain ⟨N, hN⟩ : ∃ N, N = [c.d, cl, .tuple [c.d, c.d], .tuple [c.d, .tuple [.str "zed", .int 5]], .tuple [c.d], .tuple [.tuple [.str "zed", .int 5], .tuple [.str "yak", .int 5], c.d]] := ⟨_, rfl⟩
      have lN : N.length = 6 := by rw [hN]; rfl
      have fN : Fit N := by
        intro z h
        rw [hN] at h
        simp only [List.mem_cons, List.not_mem_nil, or_false] at h
        rcases h with rfl | rfl | rfl | rfl | rfl | rfl
        · exact fc.mono (by decide) (by decide)
        · exact fcl.mono (by decide) (by decide)
        · exact (fi_two fc fc).mono (by decide) (by decide)
        · exact (fi_two fc hz).mono (by decide) (by decide)
        · exact (fi_one fc).mono (by decide) (by decide)
        · exact (fi_three hz hy fc).mono (by decide) (by decide)
      have ha := add_fit (a := L) (b := N) (by omega)
      rw [hN] at ha
      obtain ⟨M, a, b, e', fM, lM, g3⟩ := inner_loop (.val (nums ns)) (.val (.tuple abc)) .no (.val (.list odds)) s5 (.val (.int k)) s9 s10 s11 .no dr c.d fc (L ++ N) (h2.app fN) (by rw [List.length_append]; omega) hr
      have sm := rng_some (j := 12) (by decide) (by decide)
      rw [hN] at g3
      refine ⟨_, [.val (nums ns), .val (.tuple abc), .no, .val (.list M), .val (.list odds), s5, .val (.int k), .val (nums dr), .val c.d, a, b, e', .no], rfl, ?_, M, _, _, _, _, _, _, fM, ?_, rfl⟩
      · have t12 : (12 : Int).toNat = 12 := rfl
        simp only [e_run, e_seq, seq_nx, seq_rt, seq_none, e_skip, e_set, e_own, nxK_some, vK_some, oK_some, e_ret, rtK_some, e_if, ifK_some, e_fVar, e_bVar, va_val, vb_val, vb_own, vb_bor, at_0, at_S, set_0, set_S, e_K, e_f1, o1_some, e_f2, o2_some, e_and, and_t, and_f, and_b, e_or, or_b, e_tOf, to_b, e_tAnd, tand_b, e_tOr, tor_b, e_tNot, not_b, e_tYes, e_fIf, fif_b, e_nil, e_cons, cons_some, e_tup, tup_some, e_lst, lst_some, e_call, call_some, e_m1, e_m2, e_sSeq, seqs_l, seqs_t, seqs_s, e_for, for_some, e_asg, tg_some, e_gN, e_gT2, e_gT3, e_frz, frz_own, e_retOwn, ch_b, e_lc, co_some, lc_some, wipe_nil, wipe_cons, end_rt, end_nx, pt_none, pt_some, int_some, e_cut, cut_l, cut_t, e_app, e_sRng, pad_0, sl_f, sl_t, sl_nil, add_i, sub_i, lt_i, le_i, gt_i, ge_i, neg_i, not_d, len_l, len_t, ix_l, ix_t, max2_i, min2_i, tup_l, tup_t, lst_l, lst_t, rev_l, rev_t, bool_i, bool_b, int_b, isn_n, e_chain, e_par, e_m3, List.length_cons, List.length_nil, List.replicate, List.cons_append, List.nil_append, Option.map_some, Nat.reduceAdd, Nat.reduceSub, Nat.zero_add, if_true, if_false, ite_true, ite_false, Bool.false_eq_true, reduceCtorEq, decide_true, decide_false, not_true, not_false_iff, Bool.not_true, Bool.not_false, Bool.and_true, Bool.true_and, Bool.and_false, Bool.false_and, Bool.or_true, Bool.true_or, Bool.or_false, Bool.false_or, Mi.B_law_3, g1, g2, e2, ha, sm, t12, g3]
      · rw [List.length_append, lN] at lM
        simp only [List.length_append, List.length_cons, List.length_nil]
        omega
  obtain ⟨s, w3⟩ := last_loop (.val (nums ns)) (.val (.tuple abc)) .no (.val (.list odds)) s5 s6 s7 s8 s9 s10 s11 .no L2 F2
  show Mi.m_law [nums ns] = _
  rw [hL0] at w1
  simp only [odds, odds2] at hodd w1 w2 w3
  simp only [e_run, e_seq, seq_nx, seq_rt, seq_none, e_skip, e_set, e_own, nxK_some, vK_some, oK_some, e_ret, rtK_some, e_if, ifK_some, e_fVar, e_bVar, va_val, vb_val, vb_own, vb_bor, at_0, at_S, set_0, set_S, e_K, e_f1, o1_some, e_f2, o2_some, e_and, and_t, and_f, and_b, e_or, or_b, e_tOf, to_b, e_tAnd, tand_b, e_tOr, tor_b, e_tNot, not_b, e_tYes, e_fIf, fif_b, e_nil, e_cons, cons_some, e_tup, tup_some, e_lst, lst_some, e_call, call_some, e_m1, e_m2, e_sSeq, seqs_l, seqs_t, seqs_s, e_for, for_some, e_asg, tg_some, e_gN, e_gT2, e_gT3, e_frz, frz_own, e_retOwn, ch_b, e_lc, co_some, lc_some, wipe_nil, wipe_cons, end_rt, end_nx, pt_none, pt_some, int_some, e_cut, cut_l, cut_t, e_app, e_sRng, pad_0, sl_f, sl_t, sl_nil, add_i, sub_i, lt_i, le_i, gt_i, ge_i, neg_i, not_d, len_l, len_t, ix_l, ix_t, max2_i, min2_i, tup_l, tup_t, lst_l, lst_t, rev_l, rev_t, bool_i, bool_b, int_b, isn_n, e_chain, e_par, e_m3, List.length_cons, List.length_nil, List.replicate, List.cons_append, List.nil_append, Option.map_some, Nat.reduceAdd, Nat.reduceSub, Nat.zero_add, if_true, if_false, ite_true, ite_false, Bool.false_eq_true, reduceCtorEq, decide_true, decide_false, not_true, not_false_iff, Bool.not_true, Bool.not_false, Bool.and_true, Bool.true_and, Bool.and_false, Bool.false_and, Bool.or_true, Bool.true_or, Bool.or_false, Bool.false_or, Mi.m_law, Mi.G_law, hc, hf, c8, c1, c2, c13, e0, hodd, w1, w2, w3]
end Fact
set_option maxRecDepth 100000
set_option maxHeartbeats 4000000
/-! Walks of the defs of k01, printed by gen.py. -/
namespace Wk
open PySem PySem.Spec PyProof.Rows L2 Pu Mi
def st (i : Nat) : Stmt := PySem.Challenge.pw_sharecords_k01_cords_known.main.body.getD i (.Pass ⟨0, 0, 0, 0⟩)
variable {P : Program} {w : World} {K : PySem.W.Frag} {mg : Str → Option Value} {base : Heap}
theorem sc_is_number : FnScope ["thing", "least", "most"] ["thing", "least", "most"] (defScope (st 1)) := ⟨rfl, rfl, rfl, by decide +kernel, rfl, by decide +kernel, by decide +kernel⟩
theorem w_is_number {k : Nat} (D : Df K mg "is_number" (st 1) ["thing", "least", "most"]) (B : Bi mg) : Ok P w K mg base "is_number" (k + 1) ["thing", "least", "most"] false [false, false, false] (runQ false 3 [false, false, false] (G_is_number)) := by
  refine ok_of (N := ["thing", "least", "most"]) D sc_is_number rfl fun f cdv A outer s H E hr => ?_
  have sc := sc_is_number
  exact s_one (s_ret (x_and (x_isi (tn := "int") (by rfl) B.isinstance (by rfl) B.int (by decide +kernel) kit_int (b_var 0)) (x_and (x_not (x_isi (tn := "bool") (by rfl) B.isinstance (by rfl) B.bool (by decide +kernel) kit_bool (b_var 0))) (x_one (x_lele (b_var 1) (b_var 0) (b_var 2))))))
theorem sc_is_name : FnScope ["thing", "letters", "sign"] ["thing"] (defScope (st 2)) := ⟨rfl, rfl, rfl, by decide +kernel, rfl, by decide +kernel, by decide +kernel⟩
theorem w_is_name {k : Nat} (D : Df K mg "is_name" (st 2) ["thing"]) (B : Bi mg) : Ok P w K mg base "is_name" (k + 1) ["thing"] false [false] (runQ false 3 [false] (G_is_name)) := by
  refine ok_of (N := ["thing", "letters", "sign"]) D sc_is_name rfl fun f cdv A outer s H E hr => ?_
  have sc := sc_is_name
  exact s_cons (s_set (i := 1) sc.nd (by rfl) (by first | exact Or.inl rfl | exact Or.inr rfl) (x_str)) (s_one (s_ret (x_and (x_isi (tn := "str") (by rfl) B.isinstance (by rfl) B.str (by decide +kernel) kit_str (b_var 0)) (x_and (x_lele ((x_int).toB) ((x_len (by rfl) B.len (b_var 0)).toB) ((x_int).toB)) (x_one (x_all rfl (by rfl) B.all ((x_lc (own := [("sign", 2)]) rfl sc.nd (IX.br (i_seq (x_var 0))) (blkOk_by (N := ["thing", "letters", "sign"]) (sc := defScope (st 2)) (by decide +kernel)) (fun _ _ _ _ _ => pg_name (i := 2) sc.nd (by rfl) (by first | exact Or.inl rfl | exact Or.inr rfl)) (tg_name _ (i := 2) (by decide)) (fun _ _ _ _ _ => if_nil) (fun _ _ _ _ _ => x_in (hr65 hr) (b_var 2) (b_var 1))).toB)))))))
theorem sc_is_strand : FnScope ["thing"] ["thing"] (defScope (st 3)) := ⟨rfl, rfl, rfl, by decide +kernel, rfl, by decide +kernel, by decide +kernel⟩
theorem w_is_strand {k : Nat} {m_is_name : Fn} {m_is_number : Fn} (D : Df K mg "is_strand" (st 3) ["thing"]) (B : Bi mg) (o_is_name : Ok P w K mg base "is_name" k ["thing"] false [false] m_is_name) (o_is_number : Ok P w K mg base "is_number" k ["thing", "least", "most"] false [false, false, false] m_is_number) : Ok P w K mg base "is_strand" (k + 1) ["thing"] false [false] (runQ false 1 [false] (G_is_strand m_is_name m_is_number)) := by
  refine ok_of (N := ["thing"]) D sc_is_strand rfl fun f cdv A outer s H E hr => ?_
  have sc := sc_is_strand
  exact s_one (s_ret (x_and (x_isi (tn := "tuple") (by rfl) B.isinstance (by rfl) B.tuple (by decide +kernel) kit_tuple (b_var 0)) (x_and (x_eq hr.units ((x_len (by rfl) B.len (b_var 0)).toB) ((x_int).toB)) (x_and (o_call o_is_name hr (by rfl) (ar_val (x_ix hr.units (b_var 0) ((x_int).toB)) (ar_nil))) (x_one (o_call o_is_number hr (by rfl) (ar_val (x_ix hr.units (b_var 0) ((x_int).toB)) (ar_val (x_int) (ar_val (x_int) (ar_nil))))))))))
theorem sc_is_tied_so : FnScope ["thing", "part"] ["thing"] (defScope (st 4)) := ⟨rfl, rfl, rfl, by decide +kernel, rfl, by decide +kernel, by decide +kernel⟩
theorem w_is_tied_so {k : Nat} {m_is_strand : Fn} {m_is_tied_so : Fn} (D : Df K mg "is_tied_so" (st 4) ["thing"]) (B : Bi mg) (o_is_strand : Ok P w K mg base "is_strand" k ["thing"] false [false] m_is_strand) (o_is_tied_so : Ok P w K mg base "is_tied_so" k ["thing"] false [false] m_is_tied_so) : Ok P w K mg base "is_tied_so" (k + 1) ["thing"] false [false] (runQ false 2 [false] (G_is_tied_so m_is_strand m_is_tied_so)) := by
  refine ok_of (N := ["thing", "part"]) D sc_is_tied_so rfl fun f cdv A outer s H E hr => ?_
  have sc := sc_is_tied_so
  exact s_cons (s_if (t_val (o_call o_is_strand hr (by rfl) (ar_val (x_var 0) (ar_nil)))) (s_one (s_ret (x_bl))) (s_nil)) (s_one (s_ret (x_and (x_isi (tn := "tuple") (by rfl) B.isinstance (by rfl) B.tuple (by decide +kernel) kit_tuple (b_var 0)) (x_and (x_gt ((x_len (by rfl) B.len (b_var 0)).toB) ((x_int).toB)) (x_one (x_all rfl (by rfl) B.all ((x_lc (own := [("part", 1)]) rfl sc.nd (IX.br (i_seq (x_var 0))) (blkOk_by (N := ["thing", "part"]) (sc := defScope (st 4)) (by decide +kernel)) (fun _ _ _ _ _ => pg_name (i := 1) sc.nd (by rfl) (by first | exact Or.inl rfl | exact Or.inr rfl)) (tg_name _ (i := 1) (by decide)) (fun _ _ _ _ _ => if_nil) (fun _ _ _ _ _ => o_call o_is_tied_so hr (by rfl) (ar_val (x_var 1) (ar_nil)))).toB)))))))
theorem r_is_tied_so (D : Df K mg "is_tied_so" (st 4) ["thing"]) (B : Bi mg) {q : Nat} (o_is_strand : Ok P w K mg base "is_strand" q ["thing"] false [false] m_is_strand) : ∀ n, Ok P w K mg base "is_tied_so" (q + n) ["thing"] false [false] (mf_is_tied_so n)
  | 0 => ok_none D
  | n + 1 => w_is_tied_so D B (o_is_strand.mono (Nat.le_add_right _ _)) (r_is_tied_so D B o_is_strand n)
theorem sc_is_one : FnScope ["cord"] ["cord"] (defScope (st 5)) := ⟨rfl, rfl, rfl, by decide +kernel, rfl, by decide +kernel, by decide +kernel⟩
theorem w_is_one {k : Nat} (D : Df K mg "is_one" (st 5) ["cord"]) (B : Bi mg) : Ok P w K mg base "is_one" (k + 1) ["cord"] false [false] (runQ false 1 [false] (G_is_one)) := by
  refine ok_of (N := ["cord"]) D sc_is_one rfl fun f cdv A outer s H E hr => ?_
  have sc := sc_is_one
  exact s_one (s_ret (x_isi (tn := "str") (by rfl) B.isinstance (by rfl) B.str (by decide +kernel) kit_str ((x_ix hr.units (b_var 0) ((x_int).toB)).toB)))
theorem sc_strands_of : FnScope ["cord", "part", "strand"] ["cord"] (defScope (st 6)) := ⟨rfl, rfl, rfl, by decide +kernel, rfl, by decide +kernel, by decide +kernel⟩
theorem w_strands_of {k : Nat} {m_is_one : Fn} {m_strands_of : Fn} (D : Df K mg "strands_of" (st 6) ["cord"]) (B : Bi mg) (o_is_one : Ok P w K mg base "is_one" k ["cord"] false [false] m_is_one) (o_strands_of : Ok P w K mg base "strands_of" k ["cord"] false [false] m_strands_of) : Ok P w K mg base "strands_of" (k + 1) ["cord"] false [false] (runQ false 3 [false] (G_strands_of m_is_one m_strands_of)) := by
  refine ok_of (N := ["cord", "part", "strand"]) D sc_strands_of rfl fun f cdv A outer s H E hr => ?_
  have sc := sc_strands_of
  exact s_cons (s_if (t_val (o_call o_is_one hr (by rfl) (ar_val (x_var 0) (ar_nil)))) (s_one (s_ret (x_lst (ar_val (x_var 0) (ar_nil))))) (s_nil)) (s_one (s_ret (x_lc2 (own := [("part", 1), ("strand", 2)]) (vs1 := [2]) rfl sc.nd (IX.br (i_seq (x_var 0))) (blkOk_by (N := ["cord", "part", "strand"]) (sc := defScope (st 6)) (by decide +kernel)) (by decide) (fun _ _ _ _ _ => pg_name (i := 1) sc.nd (by rfl) (by first | exact Or.inl rfl | exact Or.inr rfl)) (tg_name _ (i := 1) (by decide)) (fun _ _ _ _ _ => if_nil) (fun _ _ _ _ _ => i_seq (o_call o_strands_of hr (by rfl) (ar_val (x_var 1) (ar_nil)))) (fun _ _ _ _ _ => pg_name (i := 2) sc.nd (by rfl) (by first | exact Or.inl rfl | exact Or.inr rfl)) (tg_name _ (i := 2) (by decide)) (fun _ _ _ _ _ => if_nil) (fun _ _ _ _ _ => x_var 2))))
theorem r_strands_of (D : Df K mg "strands_of" (st 6) ["cord"]) (B : Bi mg) {q : Nat} (o_is_one : Ok P w K mg base "is_one" q ["cord"] false [false] m_is_one) : ∀ n, Ok P w K mg base "strands_of" (q + n) ["cord"] false [false] (mf_strands_of n)
  | 0 => ok_none D
  | n + 1 => w_strands_of D B (o_is_one.mono (Nat.le_add_right _ _)) (r_strands_of D B o_is_one n)
theorem sc_is_cord : FnScope ["thing", "names", "name", "strength"] ["thing"] (defScope (st 7)) := ⟨rfl, rfl, rfl, by decide +kernel, rfl, by decide +kernel, by decide +kernel⟩
theorem w_is_cord {k : Nat} {m_is_tied_so : Fn} {m_strands_of : Fn} (D : Df K mg "is_cord" (st 7) ["thing"]) (B : Bi mg) (o_is_tied_so : Ok P w K mg base "is_tied_so" k ["thing"] false [false] m_is_tied_so) (o_strands_of : Ok P w K mg base "strands_of" k ["cord"] false [false] m_strands_of) : Ok P w K mg base "is_cord" (k + 1) ["thing"] false [false] (runQ false 4 [false] (G_is_cord m_is_tied_so m_strands_of)) := by
  refine ok_of (N := ["thing", "names", "name", "strength"]) D sc_is_cord rfl fun f cdv A outer s H E hr => ?_
  have sc := sc_is_cord
  exact s_cons (s_if (t_not (t_val (o_call o_is_tied_so hr (by rfl) (ar_val (x_var 0) (ar_nil))))) (s_one (s_ret (x_bl))) (s_nil)) (s_cons (s_setLc (i := 1) (own := [("name", 2), ("strength", 3)]) rfl sc.nd (by rfl) rfl (sw_true rfl rfl rfl (by decide +kernel)) (IX.br (i_seq (o_call o_strands_of hr (by rfl) (ar_val (x_var 0) (ar_nil))))) (blkOk_by (N := ["thing", "names", "name", "strength"]) (sc := defScope (st 7)) (by decide +kernel)) (fun _ _ _ _ _ => pg_tup rfl (pgs_cons (pg_name (i := 2) sc.nd (by rfl) (by first | exact Or.inl rfl | exact Or.inr rfl)) (pgs_cons (pg_name (i := 3) sc.nd (by rfl) (by first | exact Or.inl rfl | exact Or.inr rfl)) (pgs_nil)))) (tg_two _ (i := 2) (j := 3) (by decide) (by decide)) (fun _ _ _ _ _ => if_nil) (fun _ _ _ _ _ => x_var 2)) (s_one (s_ret (x_and (x_le ((x_len (by rfl) B.len (b_var 1)).toB) ((x_int).toB)) (x_one (x_eq hr.units ((x_lenSet rfl (by rfl) B.len (by rfl) B.set (b_var 1)).toB) ((x_len (by rfl) B.len (b_var 1)).toB)))))))
theorem sc_law_cell : FnScope ["script", "k"] ["script", "k"] (defScope (st 9)) := ⟨rfl, rfl, rfl, by decide +kernel, rfl, by decide +kernel, by decide +kernel⟩
theorem w_law_cell {k : Nat} (D : Df K mg "_law_cell" (st 9) ["script", "k"]) (B : Bi mg) : Ok P w K mg base "_law_cell" (k + 1) ["script", "k"] false [false, false] (runQ false 2 [false, false] (G_law_cell)) := by
  refine ok_of (N := ["script", "k"]) D sc_law_cell rfl fun f cdv A outer s H E hr => ?_
  have sc := sc_law_cell
  exact s_cons (s_if (t_lt (b_var 1) ((x_len (by rfl) B.len (b_var 0)).toB)) (s_one (s_ret (x_ix hr.units (b_var 0) (b_var 1)))) (s_nil)) (s_cons (s_if (t_eq hr.units ((x_len (by rfl) B.len (b_var 0)).toB) ((x_int).toB)) (s_one (s_ret (x_add ((x_mul ((x_int).toB) (b_var 1)).toB) ((x_int).toB)))) (s_nil)) (s_one (s_ret (x_add ((x_mod ((x_ix hr.units (b_var 0) ((x_mod (b_var 1) ((x_len (by rfl) B.len (b_var 0)).toB)).toB)).toB) ((x_int).toB)).toB) ((x_mul ((x_int).toB) (b_var 1)).toB)))))
theorem sc_law_draws : FnScope ["script", "k", "many", "base", "primes", "cell", "rest", "row", "j", "mash"] ["script", "k", "many", "base"] (defScope (st 10)) := ⟨rfl, rfl, rfl, by decide +kernel, rfl, by decide +kernel, by decide +kernel⟩
theorem w_law_draws {k : Nat} {m_law_cell : Fn} (D : Df K mg "_law_draws" (st 10) ["script", "k", "many", "base"]) (B : Bi mg) (o_law_cell : Ok P w K mg base "_law_cell" k ["script", "k"] false [false, false] m_law_cell) : Ok P w K mg base "_law_draws" (k + 1) ["script", "k", "many", "base"] false [false, false, false, false] (runQ false 10 [false, false, false, false] (G_law_draws m_law_cell)) := by
  refine ok_of (N := ["script", "k", "many", "base", "primes", "cell", "rest", "row", "j", "mash"]) D sc_law_draws rfl fun f cdv A outer s H E hr => ?_
  have sc := sc_law_draws
  exact s_cons (s_set (i := 4) sc.nd (by rfl) (by first | exact Or.inl rfl | exact Or.inr rfl) (x_tup (ar_val (x_int) (ar_val (x_int) (ar_val (x_int) (ar_val (x_int) (ar_val (x_int) (ar_val (x_int) (ar_val (x_int) (ar_val (x_int) (ar_nil))))))))))) (s_cons (s_set (i := 5) sc.nd (by rfl) (by first | exact Or.inl rfl | exact Or.inr rfl) (o_call o_law_cell hr (by rfl) (ar_val (x_var 0) (ar_val (x_var 1) (ar_nil))))) (s_cons (s_set (i := 6) sc.nd (by rfl) (by first | exact Or.inl rfl | exact Or.inr rfl) (x_int)) (s_cons (s_if (t_ge (b_var 5) ((x_pow ((x_int).toB) ((x_int).toB)).toB)) (s_one (s_set (i := 6) sc.nd (by rfl) (by first | exact Or.inl rfl | exact Or.inr rfl) (x_var 5))) (s_nil)) (s_cons (s_own (i := 7) sc.nd (by rfl) (by first | exact Or.inl rfl | exact Or.inr rfl) (f_lst (ar_nil))) (s_cons (s_for (is := [8]) PassesOwn.never rfl (i_rng (by rfl) B.range (x_var 2)) (pg_name (i := 8) sc.nd (by rfl) (by first | exact Or.inl rfl | exact Or.inr rfl)) (tg_name _ (i := 8) (by decide)) (s_cons (s_set (i := 9) sc.nd (by rfl) (by first | exact Or.inl rfl | exact Or.inr rfl) (x_mul ((x_mod (b_var 5) ((x_ix hr.units (b_var 4) ((x_mod (b_var 8) ((x_int).toB)).toB)).toB)).toB) ((x_add ((x_int).toB) ((x_mul ((x_mul ((x_int).toB) (b_var 8)).toB) (b_var 8)).toB)).toB))) (s_cons (s_set (i := 9) sc.nd (by rfl) (by first | exact Or.inl rfl | exact Or.inr rfl) (x_add ((x_add (b_var 9) ((x_mul ((x_mul ((x_int).toB) ((x_add (b_var 8) ((x_int).toB)).toB)).toB) ((x_add (b_var 8) ((x_int).toB)).toB)).toB)).toB) ((x_mul ((x_int).toB) (b_var 1)).toB))) (s_cons (s_set (i := 9) sc.nd (by rfl) (by first | exact Or.inl rfl | exact Or.inr rfl) (x_mod (b_var 9) ((x_ix hr.units (b_var 4) ((x_mod ((x_add ((x_mul ((x_int).toB) (b_var 8)).toB) (b_var 1)).toB) ((x_int).toB)).toB)).toB))) (s_cons (s_set (i := 9) sc.nd (by rfl) (by first | exact Or.inl rfl | exact Or.inr rfl) (x_mod ((x_mul ((x_mul (b_var 9) (b_var 9)).toB) (b_var 9)).toB) ((x_ix hr.units (b_var 4) ((x_mod ((x_add (b_var 8) ((x_int).toB)).toB) ((x_int).toB)).toB)).toB))) (s_cons (s_if (t_gt (b_var 6) ((x_int).toB)) (s_one (s_set (i := 9) sc.nd (by rfl) (by first | exact Or.inl rfl | exact Or.inr rfl) (x_var 6))) (s_nil)) (s_cons (s_app 7 (x_mod (b_var 9) (b_var 3))) (s_one (s_set (i := 6) sc.nd (by rfl) (by first | exact Or.inl rfl | exact Or.inr rfl) (x_div (b_var 6) (b_var 3))))))))))) (s_one (s_frz 7 (s_ret (x_var 7)))))))))
theorem sc_law_number : FnScope ["thing", "least", "most"] ["thing", "least", "most"] (defScope (st 11)) := ⟨rfl, rfl, rfl, by decide +kernel, rfl, by decide +kernel, by decide +kernel⟩
theorem w_law_number {k : Nat} (D : Df K mg "_law_number" (st 11) ["thing", "least", "most"]) (B : Bi mg) : Ok P w K mg base "_law_number" (k + 1) ["thing", "least", "most"] false [false, false, false] (runQ false 3 [false, false, false] (G_law_number)) := by
  refine ok_of (N := ["thing", "least", "most"]) D sc_law_number rfl fun f cdv A outer s H E hr => ?_
  have sc := sc_law_number
  exact s_one (s_ret (x_and (x_isi (tn := "int") (by rfl) B.isinstance (by rfl) B.int (by decide +kernel) kit_int (b_var 0)) (x_and (x_not (x_isi (tn := "bool") (by rfl) B.isinstance (by rfl) B.bool (by decide +kernel) kit_bool (b_var 0))) (x_one (x_lele (b_var 1) (b_var 0) (b_var 2))))))
theorem sc_law_truly : FnScope ["found", "due"] ["found", "due"] (defScope (st 12)) := ⟨rfl, rfl, rfl, by decide +kernel, rfl, by decide +kernel, by decide +kernel⟩
theorem w_law_truly {k : Nat} (D : Df K mg "_law_truly" (st 12) ["found", "due"]) (B : Bi mg) : Ok P w K mg base "_law_truly" (k + 1) ["found", "due"] false [false, false] (runQ false 2 [false, false] (G_law_truly)) := by
  refine ok_of (N := ["found", "due"]) D sc_law_truly rfl fun f cdv A outer s H E hr => ?_
  have sc := sc_law_truly
  exact s_one (s_ret (x_and (x_isi (tn := "bool") (by rfl) B.isinstance (by rfl) B.bool (by decide +kernel) kit_bool (b_var 0)) (x_one (x_eq hr.units (b_var 0) (b_var 1)))))
theorem sc_law_places : FnScope ["thing", "found", "at", "part", "path"] ["thing"] (defScope (st 13)) := ⟨rfl, rfl, rfl, by decide +kernel, rfl, by decide +kernel, by decide +kernel⟩
theorem w_law_places {k : Nat} {m_law_places : Fn} (D : Df K mg "_law_places" (st 13) ["thing"]) (B : Bi mg) (o_law_places : Ok P w K mg base "_law_places" k ["thing"] false [false] m_law_places) : Ok P w K mg base "_law_places" (k + 1) ["thing"] false [false] (runQ false 5 [false] (G_law_places m_law_places)) := by
  refine ok_of (N := ["thing", "found", "at", "part", "path"]) D sc_law_places rfl fun f cdv A outer s H E hr => ?_
  have sc := sc_law_places
  exact s_cons (s_set (i := 1) sc.nd (by rfl) (by first | exact Or.inl rfl | exact Or.inr rfl) (x_lst (ar_val (x_tup (ar_nil)) (ar_nil)))) (s_cons (s_if (t_val (x_isiLT (by rfl) B.isinstance (by rfl) B.list (by rfl) B.tuple (b_var 0))) (s_one (s_for (is := [2, 3]) PassesOwn.never rfl (i_enum (by rfl) B.enumerate (x_var 0)) (pg_tup rfl (pgs_cons (pg_name (i := 2) sc.nd (by rfl) (by first | exact Or.inl rfl | exact Or.inr rfl)) (pgs_cons (pg_name (i := 3) sc.nd (by rfl) (by first | exact Or.inl rfl | exact Or.inr rfl)) (pgs_nil)))) (tg_two _ (i := 2) (j := 3) (by decide) (by decide)) (s_one (s_set (i := 1) sc.nd (by rfl) (by first | exact Or.inl rfl | exact Or.inr rfl) (x_add (b_var 1) ((x_lc (own := [("path", 4)]) rfl sc.nd (IX.br (i_seq (o_call o_law_places hr (by rfl) (ar_val (x_var 3) (ar_nil))))) (blkOk_by (N := ["thing", "found", "at", "part", "path"]) (sc := defScope (st 13)) (by decide +kernel)) (fun _ _ _ _ _ => pg_name (i := 4) sc.nd (by rfl) (by first | exact Or.inl rfl | exact Or.inr rfl)) (tg_name _ (i := 4) (by decide)) (fun _ _ _ _ _ => if_nil) (fun _ _ _ _ _ => x_add ((x_tup (ar_val (x_var 2) (ar_nil))).toB) (b_var 4))).toB)))))) (s_nil)) (s_one (s_ret (x_var 1))))
theorem r_law_places (D : Df K mg "_law_places" (st 13) ["thing"]) (B : Bi mg) {q : Nat} : ∀ n, Ok P w K mg base "_law_places" (q + n) ["thing"] false [false] (mf_law_places n)
  | 0 => ok_none D
  | n + 1 => w_law_places D B (r_law_places D B n)
theorem sc_law_other : FnScope ["thing", "draws", "some"] ["thing", "draws"] (defScope (st 14)) := ⟨rfl, rfl, rfl, by decide +kernel, rfl, by decide +kernel, by decide +kernel⟩
theorem w_law_other {k : Nat} (D : Df K mg "_law_other" (st 14) ["thing", "draws"]) (B : Bi mg) : Ok P w K mg base "_law_other" (k + 1) ["thing", "draws"] false [false, false] (runQ false 3 [false, false] (G_law_other)) := by
  refine ok_of (N := ["thing", "draws", "some"]) D sc_law_other rfl fun f cdv A outer s H E hr => ?_
  have sc := sc_law_other
  exact s_cons (s_set (i := 2) sc.nd (by rfl) (by first | exact Or.inl rfl | exact Or.inr rfl) (x_lst (ar_val (x_non) (ar_val (x_bl) (ar_val (x_bl) (ar_val (x_int) (ar_val (x_sub ((x_int).toB) ((x_int).toB)) (ar_val (x_pow ((x_int).toB) ((x_int).toB)) (ar_val (x_str) (ar_val (x_str) (ar_val (x_tup (ar_nil)) (ar_val (x_lst (ar_nil)) (ar_val (x_tup (ar_val (x_var 0) (ar_nil))) (ar_val (x_lst (ar_val (x_var 0) (ar_nil))) (ar_val (x_tup (ar_val (x_int) (ar_nil))) (ar_val (x_tup (ar_val (x_int) (ar_val (x_int) (ar_nil)))) (ar_val (x_int) (ar_val (x_int) (ar_nil))))))))))))))))))) (s_cons (s_if (w_pt (w_and (t_val (x_isi (tn := "int") (by rfl) B.isinstance (by rfl) B.int (by decide +kernel) kit_int (b_var 0))) (w_and1 (t_not (t_val (x_isi (tn := "bool") (by rfl) B.isinstance (by rfl) B.bool (by decide +kernel) kit_bool (b_var 0))))))) (s_one (s_set (i := 2) sc.nd (by rfl) (by first | exact Or.inl rfl | exact Or.inr rfl) (x_add ((x_lst (ar_val (x_add (b_var 0) ((x_int).toB)) (ar_val (x_sub (b_var 0) ((x_int).toB)) (ar_val (x_boolC (by rfl) B.bool (b_var 0)) (ar_val (x_add (b_var 0) ((x_int).toB)) (ar_val (x_sub (b_var 0) ((x_int).toB)) (ar_val (x_boolC (by rfl) B.bool (b_var 0)) (ar_nil)))))))).toB) (b_var 2)))) (s_nil)) (s_cons (s_if (t_val (x_isiLT (by rfl) B.isinstance (by rfl) B.list (by rfl) B.tuple (b_var 0))) (s_one (s_set (i := 2) sc.nd (by rfl) (by first | exact Or.inl rfl | exact Or.inr rfl) (x_add ((x_lst (ar_val (x_listC (by rfl) B.list (b_var 0)) (ar_val (x_tupleC (by rfl) B.tuple (b_var 0)) (ar_val (x_tupleC (by rfl) B.tuple ((x_rev (b_var 0)).toB)) (ar_val (x_listC (by rfl) B.list (b_var 0)) (ar_nil)))))).toB) (b_var 2)))) (s_nil)) (s_one (s_ret (x_ix hr.units (b_var 2) ((x_mod ((x_ix hr.units (b_var 1) ((x_int).toB)).toB) ((x_len (by rfl) B.len (b_var 2)).toB)).toB))))))
theorem sc_law_shifted : FnScope ["rows", "at", "draws", "other", "rest"] ["rows", "at", "draws"] (defScope (st 15)) := ⟨rfl, rfl, rfl, by decide +kernel, rfl, by decide +kernel, by decide +kernel⟩
theorem w_law_shifted {k : Nat} (D : Df K mg "_law_shifted" (st 15) ["rows", "at", "draws"]) (B : Bi mg) : Ok P w K mg base "_law_shifted" (k + 1) ["rows", "at", "draws"] false [false, false, false] (runQ false 5 [false, false, false] (G_law_shifted)) := by
  refine ok_of (N := ["rows", "at", "draws", "other", "rest"]) D sc_law_shifted rfl fun f cdv A outer s H E hr => ?_
  have sc := sc_law_shifted
  exact s_cons (s_set (i := 3) sc.nd (by rfl) (by first | exact Or.inl rfl | exact Or.inr rfl) (x_mod ((x_ix hr.units (b_var 2) ((x_int).toB)).toB) ((x_len (by rfl) B.len (b_var 0)).toB))) (s_cons (s_if (t_eq hr.units ((x_mod ((x_ix hr.units (b_var 2) ((x_int).toB)).toB) ((x_int).toB)).toB) ((x_int).toB)) (s_one (s_ret (x_add ((x_cut (b_var 0) (p_none) (p_some (b_var 1))).toB) ((x_cut (b_var 0) (p_some ((x_add (b_var 1) ((x_int).toB)).toB)) (p_none)).toB)))) (s_nil)) (s_cons (s_if (t_eq hr.units ((x_mod ((x_ix hr.units (b_var 2) ((x_int).toB)).toB) ((x_int).toB)).toB) ((x_int).toB)) (s_one (s_ret (x_add ((x_add ((x_cut (b_var 0) (p_none) (p_some (b_var 3))).toB) ((x_lst (ar_val (x_ix hr.units (b_var 0) (b_var 1)) (ar_nil))).toB)).toB) ((x_cut (b_var 0) (p_some (b_var 3)) (p_none)).toB)))) (s_nil)) (s_cons (s_set (i := 4) sc.nd (by rfl) (by first | exact Or.inl rfl | exact Or.inr rfl) (x_add ((x_cut (b_var 0) (p_none) (p_some (b_var 1))).toB) ((x_cut (b_var 0) (p_some ((x_add (b_var 1) ((x_int).toB)).toB)) (p_none)).toB))) (s_one (s_ret (x_add ((x_add ((x_cut (b_var 4) (p_none) (p_some (b_var 3))).toB) ((x_lst (ar_val (x_ix hr.units (b_var 0) (b_var 1)) (ar_nil))).toB)).toB) ((x_cut (b_var 4) (p_some (b_var 3)) (p_none)).toB)))))))
theorem sc_law_put : FnScope ["thing", "path", "draws", "rows"] ["thing", "path", "draws"] (defScope (st 16)) := ⟨rfl, rfl, rfl, by decide +kernel, rfl, by decide +kernel, by decide +kernel⟩
theorem w_law_put {k : Nat} {m_law_other : Fn} {m_law_shifted : Fn} {m_law_put : Fn} (D : Df K mg "_law_put" (st 16) ["thing", "path", "draws"]) (B : Bi mg) (o_law_other : Ok P w K mg base "_law_other" k ["thing", "draws"] false [false, false] m_law_other) (o_law_shifted : Ok P w K mg base "_law_shifted" k ["rows", "at", "draws"] false [false, false, false] m_law_shifted) (o_law_put : Ok P w K mg base "_law_put" k ["thing", "path", "draws"] false [false, false, false] m_law_put) : Ok P w K mg base "_law_put" (k + 1) ["thing", "path", "draws"] false [false, false, false] (runQ false 4 [false, false, false] (G_law_put m_law_other m_law_shifted m_law_put)) := by
  refine ok_of (N := ["thing", "path", "draws", "rows"]) D sc_law_put rfl fun f cdv A outer s H E hr => ?_
  have sc := sc_law_put
  exact s_cons (s_if (t_eq hr.units (b_var 1) ((x_tup (ar_nil)).toB)) (s_one (s_ret (o_call o_law_other hr (by rfl) (ar_val (x_var 0) (ar_val (x_var 2) (ar_nil)))))) (s_nil)) (s_cons (s_own (i := 3) sc.nd (by rfl) (by first | exact Or.inl rfl | exact Or.inr rfl) (f_listC (by rfl) B.list (b_var 0))) (s_cons (s_if (w_pt (w_and (t_eq hr.units ((x_len (by rfl) B.len (b_var 1)).toB) ((x_int).toB)) (w_and1 (t_eq hr.units ((x_mod ((x_ix hr.units (b_var 2) ((x_int).toB)).toB) ((x_int).toB)).toB) ((x_int).toB))))) (s_one (s_frz 3 (s_set (i := 3) sc.nd (by rfl) (by first | exact Or.inl rfl | exact Or.inr rfl) (o_call o_law_shifted hr (by rfl) (ar_val (x_var 3) (ar_val (x_ix hr.units (b_var 1) ((x_int).toB)) (ar_val (x_var 2) (ar_nil)))))))) (s_cons (s_put hr.units 3 (x_ix hr.units (b_var 1) ((x_int).toB)) (o_call o_law_put hr (by rfl) (ar_val (x_ix hr.units (b_var 3) ((x_ix hr.units (b_var 1) ((x_int).toB)).toB)) (ar_val (x_cut (b_var 1) (p_some ((x_int).toB)) (p_none)) (ar_val (x_var 2) (ar_nil)))))) (s_frzs 3 (s_nil)))) (s_one (s_ret (x_if (t_val (x_isi (tn := "list") (by rfl) B.isinstance (by rfl) B.list (by decide +kernel) kit_list (b_var 0))) (x_var 3) (x_tupleC (by rfl) B.tuple (b_var 3)))))))
theorem r_law_put (D : Df K mg "_law_put" (st 16) ["thing", "path", "draws"]) (B : Bi mg) {q : Nat} (o_law_other : Ok P w K mg base "_law_other" q ["thing", "draws"] false [false, false] m_law_other) (o_law_shifted : Ok P w K mg base "_law_shifted" q ["rows", "at", "draws"] false [false, false, false] m_law_shifted) : ∀ n, Ok P w K mg base "_law_put" (q + n) ["thing", "path", "draws"] false [false, false, false] (mf_law_put n)
  | 0 => ok_none D
  | n + 1 => w_law_put D B (o_law_other.mono (Nat.le_add_right _ _)) (o_law_shifted.mono (Nat.le_add_right _ _)) (r_law_put D B o_law_other o_law_shifted n)
theorem sc_law_bent : FnScope ["thing", "draws", "places"] ["thing", "draws"] (defScope (st 17)) := ⟨rfl, rfl, rfl, by decide +kernel, rfl, by decide +kernel, by decide +kernel⟩
theorem w_law_bent {k : Nat} {m_law_places : Fn} {m_law_put : Fn} (D : Df K mg "_law_bent" (st 17) ["thing", "draws"]) (B : Bi mg) (o_law_places : Ok P w K mg base "_law_places" k ["thing"] false [false] m_law_places) (o_law_put : Ok P w K mg base "_law_put" k ["thing", "path", "draws"] false [false, false, false] m_law_put) : Ok P w K mg base "_law_bent" (k + 1) ["thing", "draws"] false [false, false] (runQ false 3 [false, false] (G_law_bent m_law_places m_law_put)) := by
  refine ok_of (N := ["thing", "draws", "places"]) D sc_law_bent rfl fun f cdv A outer s H E hr => ?_
  have sc := sc_law_bent
  exact s_cons (s_set (i := 2) sc.nd (by rfl) (by first | exact Or.inl rfl | exact Or.inr rfl) (o_call o_law_places hr (by rfl) (ar_val (x_var 0) (ar_nil)))) (s_one (s_ret (o_call o_law_put hr (by rfl) (ar_val (x_var 0) (ar_val (x_ix hr.units (b_var 2) ((x_mod ((x_ix hr.units (b_var 1) ((x_int).toB)).toB) ((x_len (by rfl) B.len (b_var 2)).toB)).toB)) (ar_val (x_var 1) (ar_nil)))))))
theorem sc_law_thing : FnScope ["draws", "deep", "kind", "far", "some", "k"] ["draws", "deep"] (defScope (st 18)) := ⟨rfl, rfl, rfl, by decide +kernel, rfl, by decide +kernel, by decide +kernel⟩
theorem w_law_thing {k : Nat} {m_law_thing : Fn} (D : Df K mg "_law_thing" (st 18) ["draws", "deep"]) (B : Bi mg) (o_law_thing : Ok P w K mg base "_law_thing" k ["draws", "deep"] false [false, false] m_law_thing) : Ok P w K mg base "_law_thing" (k + 1) ["draws", "deep"] false [false, false] (runQ false 6 [false, false] (G_law_thing m_law_thing)) := by
  refine ok_of (N := ["draws", "deep", "kind", "far", "some", "k"]) D sc_law_thing rfl fun f cdv A outer s H E hr => ?_
  have sc := sc_law_thing
  exact s_cons (s_set (i := 2) sc.nd (by rfl) (by first | exact Or.inl rfl | exact Or.inr rfl) (x_mod ((x_ix hr.units (b_var 0) (b_var 1)).toB) ((x_int).toB))) (s_cons (s_set (i := 3) sc.nd (by rfl) (by first | exact Or.inl rfl | exact Or.inr rfl) (x_ix hr.units ((x_lst (ar_val (x_sub ((x_mod ((x_ix hr.units (b_var 0) ((x_add (b_var 1) ((x_int).toB)).toB)).toB) ((x_int).toB)).toB) ((x_int).toB)) (ar_val (x_sub ((x_int).toB) ((x_pow ((x_int).toB) ((x_int).toB)).toB)) (ar_val (x_pow ((x_int).toB) ((x_int).toB)) (ar_nil))))).toB) ((x_mod ((x_ix hr.units (b_var 0) ((x_add (b_var 1) ((x_int).toB)).toB)).toB) ((x_int).toB)).toB))) (s_cons (s_if (w_pt (w_or (t_lt (b_var 2) ((x_int).toB)) (w_or1 (t_gt (b_var 1) ((x_int).toB))))) (s_one (s_ret (x_var 3))) (s_nil)) (s_cons (s_if (t_lt (b_var 2) ((x_int).toB)) (s_one (s_ret (x_ix hr.units ((x_lst (ar_val (x_bl) (ar_val (x_bl) (ar_val (x_non) (ar_nil))))).toB) ((x_sub (b_var 2) ((x_int).toB)).toB)))) (s_nil)) (s_cons (s_if (t_lt (b_var 2) ((x_int).toB)) (s_one (s_ret (x_ix hr.units ((x_lst (ar_val (x_str) (ar_val (x_str) (ar_val (x_str) (ar_val (x_str) (ar_val (x_str) (ar_val (x_str) (ar_val (x_str) (ar_val (x_str) (ar_nil)))))))))).toB) ((x_mod ((x_ix hr.units (b_var 0) ((x_add (b_var 1) ((x_int).toB)).toB)).toB) ((x_int).toB)).toB)))) (s_nil)) (s_cons (s_setLc (i := 4) (own := [("k", 5)]) rfl sc.nd (by rfl) rfl (sw_true rfl rfl rfl (by decide +kernel)) (IX.br (i_rng (by rfl) B.range (x_mod ((x_ix hr.units (b_var 0) ((x_add (b_var 1) ((x_int).toB)).toB)).toB) ((x_int).toB)))) (blkOk_by (N := ["draws", "deep", "kind", "far", "some", "k"]) (sc := defScope (st 18)) (by decide +kernel)) (fun _ _ _ _ _ => pg_name (i := 5) sc.nd (by rfl) (by first | exact Or.inl rfl | exact Or.inr rfl)) (tg_name _ (i := 5) (by decide)) (fun _ _ _ _ _ => if_nil) (fun _ _ _ _ _ => o_call o_law_thing hr (by rfl) (ar_val (x_add ((x_cut (b_var 0) (p_some (b_var 5)) (p_none)).toB) ((x_cut (b_var 0) (p_none) (p_some (b_var 5))).toB)) (ar_val (x_add (b_var 1) ((x_int).toB)) (ar_nil))))) (s_one (s_ret (x_if (t_eq hr.units (b_var 2) ((x_int).toB)) (x_var 4) (x_tupleC (by rfl) B.tuple (b_var 4))))))))))
theorem r_law_thing (D : Df K mg "_law_thing" (st 18) ["draws", "deep"]) (B : Bi mg) {q : Nat} : ∀ n, Ok P w K mg base "_law_thing" (q + n) ["draws", "deep"] false [false, false] (mf_law_thing n)
  | 0 => ok_none D
  | n + 1 => w_law_thing D B (r_law_thing D B n)
theorem sc_law_tied : FnScope ["parts", "draws", "left", "at", "many", "first", "last"] ["parts", "draws"] (defScope (st 19)) := ⟨rfl, rfl, rfl, by decide +kernel, rfl, by decide +kernel, by decide +kernel⟩
theorem w_law_tied {k : Nat} (D : Df K mg "_law_tied" (st 19) ["parts", "draws"]) (B : Bi mg) : Ok P w K mg base "_law_tied" (k + 1) ["parts", "draws"] false [false, false] (runQ false 7 [false, false] (G_law_tied)) := by
  refine ok_of (N := ["parts", "draws", "left", "at", "many", "first", "last"]) D sc_law_tied rfl fun f cdv A outer s H E hr => ?_
  have sc := sc_law_tied
  exact s_cons (s_parVV (i := 2) (j := 3) rfl sc.nd (by rfl) (by rfl) (by decide) rfl rfl (x_listC (by rfl) B.list (b_var 0)) (x_int) (by rfl)) (s_cons (s_while PassesOwn.never (t_gt ((x_len (by rfl) B.len (b_var 2)).toB) ((x_int).toB)) (s_cons (s_set (i := 4) sc.nd (by rfl) (by first | exact Or.inl rfl | exact Or.inr rfl) (x_min2 rfl (by rfl) B.min ((x_len (by rfl) B.len (b_var 2)).toB) ((x_add ((x_int).toB) ((x_mod ((x_ix hr.units (b_var 1) ((x_mod (b_var 3) ((x_len (by rfl) B.len (b_var 1)).toB)).toB)).toB) ((x_ix hr.units ((x_lst (ar_val (x_int) (ar_val (x_int) (ar_val (x_int) (ar_nil))))).toB) ((x_mod ((x_ix hr.units (b_var 1) ((x_int).toB)).toB) ((x_int).toB)).toB)).toB)).toB)).toB))) (s_cons (s_set (i := 5) sc.nd (by rfl) (by first | exact Or.inl rfl | exact Or.inr rfl) (x_mod ((x_ix hr.units (b_var 1) ((x_mod ((x_add (b_var 3) ((x_int).toB)).toB) ((x_len (by rfl) B.len (b_var 1)).toB)).toB)).toB) ((x_add ((x_sub ((x_len (by rfl) B.len (b_var 2)).toB) (b_var 4)).toB) ((x_int).toB)).toB))) (s_cons (s_set (i := 6) sc.nd (by rfl) (by first | exact Or.inl rfl | exact Or.inr rfl) (x_add (b_var 5) (b_var 4))) (s_cons (s_set (i := 2) sc.nd (by rfl) (by first | exact Or.inl rfl | exact Or.inr rfl) (x_add ((x_add ((x_cut (b_var 2) (p_none) (p_some (b_var 5))).toB) ((x_lst (ar_val (x_tupleC (by rfl) B.tuple ((x_cut (b_var 2) (p_some (b_var 5)) (p_some (b_var 6))).toB)) (ar_nil))).toB)).toB) ((x_cut (b_var 2) (p_some (b_var 6)) (p_none)).toB))) (s_one (s_set (i := 3) sc.nd (by rfl) (by first | exact Or.inl rfl | exact Or.inr rfl) (x_add (b_var 3) ((x_int).toB))))))))) (s_one (s_ret (x_ix hr.units (b_var 2) ((x_int).toB)))))
theorem sc_law_cord : FnScope ["draws", "most", "many", "names", "strands_so", "k", "draw", "most_so"] ["draws", "most"] (defScope (st 20)) := ⟨rfl, rfl, rfl, by decide +kernel, rfl, by decide +kernel, by decide +kernel⟩
theorem w_law_cord {k : Nat} {m_law_tied : Fn} (D : Df K mg "_law_cord" (st 20) ["draws", "most"]) (B : Bi mg) (o_law_tied : Ok P w K mg base "_law_tied" k ["parts", "draws"] false [false, false] m_law_tied) : Ok P w K mg base "_law_cord" (k + 1) ["draws", "most"] false [false, false] (runQ false 8 [false, false] (G_law_cord m_law_tied)) := by
  refine ok_of (N := ["draws", "most", "many", "names", "strands_so", "k", "draw", "most_so"]) D sc_law_cord rfl fun f cdv A outer s H E hr => ?_
  have sc := sc_law_cord
  exact s_cons (s_set (i := 2) sc.nd (by rfl) (by first | exact Or.inl rfl | exact Or.inr rfl) (x_ix hr.units ((x_lst (ar_val (x_var 1) (ar_val (x_add ((x_int).toB) ((x_mod ((x_div ((x_ix hr.units (b_var 0) ((x_int).toB)).toB) ((x_int).toB)).toB) (b_var 1)).toB)) (ar_val (x_min2 rfl (by rfl) B.min ((x_int).toB) (b_var 1)) (ar_val (x_min2 rfl (by rfl) B.min ((x_int).toB) (b_var 1)) (ar_nil)))))).toB) ((x_mod ((x_ix hr.units (b_var 0) ((x_int).toB)).toB) ((x_int).toB)).toB))) (s_cons (s_own (i := 3) sc.nd (by rfl) (by first | exact Or.inl rfl | exact Or.inr rfl) (f_lst (ar_val (x_str) (ar_val (x_str) (ar_val (x_str) (ar_val (x_str) (ar_val (x_str) (ar_val (x_str) (ar_val (x_str) (ar_val (x_str) (ar_nil))))))))))) (s_cons (s_own (i := 4) sc.nd (by rfl) (by first | exact Or.inl rfl | exact Or.inr rfl) (f_lst (ar_nil))) (s_cons (s_for (is := [5]) PassesOwn.never rfl (i_rng (by rfl) B.range (x_var 2)) (pg_name (i := 5) sc.nd (by rfl) (by first | exact Or.inl rfl | exact Or.inr rfl)) (tg_name _ (i := 5) (by decide)) (s_cons (s_set (i := 6) sc.nd (by rfl) (by first | exact Or.inl rfl | exact Or.inr rfl) (x_ix hr.units (b_var 0) ((x_add ((x_int).toB) (b_var 5)).toB))) (s_cons (s_set (i := 7) sc.nd (by rfl) (by first | exact Or.inl rfl | exact Or.inr rfl) (x_ix hr.units ((x_lst (ar_val (x_add ((x_int).toB) ((x_mod (b_var 6) ((x_int).toB)).toB)) (ar_val (x_add ((x_int).toB) ((x_mod (b_var 6) ((x_int).toB)).toB)) (ar_val (x_ix hr.units ((x_tup (ar_val (x_int) (ar_val (x_int) (ar_val (x_int) (ar_val (x_int) (ar_val (x_int) (ar_val (x_int) (ar_val (x_int) (ar_val (x_int) (ar_nil)))))))))).toB) ((x_mod (b_var 6) ((x_int).toB)).toB)) (ar_val (x_add ((x_int).toB) ((x_mod (b_var 6) ((x_int).toB)).toB)) (ar_nil)))))).toB) ((x_mod ((x_ix hr.units (b_var 0) ((x_int).toB)).toB) ((x_int).toB)).toB))) (s_one (s_appPop 4 3 ((x_mod ((x_div (b_var 6) ((x_int).toB)).toB) ((x_len (by rfl) B.len (b_var 3)).toB)).toB) (x_var 7)))))) (s_one (s_frz 4 (s_ret (o_call o_law_tied hr (by rfl) (ar_val (x_var 4) (ar_val (x_cut (b_var 0) (p_some ((x_int).toB)) (p_some ((x_int).toB))) (ar_nil))))))))))
theorem sc_law_is_strand : FnScope ["thing", "sign"] ["thing"] (defScope (st 21)) := ⟨rfl, rfl, rfl, by decide +kernel, rfl, by decide +kernel, by decide +kernel⟩
theorem w_law_is_strand {k : Nat} {m_law_number : Fn} (D : Df K mg "_law_is_strand" (st 21) ["thing"]) (B : Bi mg) (o_law_number : Ok P w K mg base "_law_number" k ["thing", "least", "most"] false [false, false, false] m_law_number) : Ok P w K mg base "_law_is_strand" (k + 1) ["thing"] false [false] (runQ false 2 [false] (G_law_is_strand m_law_number)) := by
  refine ok_of (N := ["thing", "sign"]) D sc_law_is_strand rfl fun f cdv A outer s H E hr => ?_
  have sc := sc_law_is_strand
  exact s_cons (s_if (w_pt (w_or (t_not (t_val (x_isi (tn := "tuple") (by rfl) B.isinstance (by rfl) B.tuple (by decide +kernel) kit_tuple (b_var 0)))) (w_or (t_ne hr.units ((x_len (by rfl) B.len (b_var 0)).toB) ((x_int).toB)) (w_or1 (t_not (t_val (x_isi (tn := "str") (by rfl) B.isinstance (by rfl) B.str (by decide +kernel) kit_str ((x_ix hr.units (b_var 0) ((x_int).toB)).toB)))))))) (s_one (s_ret (x_bl))) (s_nil)) (s_cons (s_if (w_pt (w_or (t_not (t_lele ((x_int).toB) ((x_len (by rfl) B.len ((x_ix hr.units (b_var 0) ((x_int).toB)).toB)).toB) ((x_int).toB))) (w_or1 (t_ne hr.units ((x_lc (own := [("sign", 1)]) rfl sc.nd (IX.br (i_seq (x_ix hr.units (b_var 0) ((x_int).toB)))) (blkOk_by (N := ["thing", "sign"]) (sc := defScope (st 21)) (by decide +kernel)) (fun _ _ _ _ _ => pg_name (i := 1) sc.nd (by rfl) (by first | exact Or.inl rfl | exact Or.inr rfl)) (tg_name _ (i := 1) (by decide)) (fun _ _ _ _ _ => if_one (t_notIn (hr65 hr) (b_var 1) ((x_str).toB))) (fun _ _ _ _ _ => x_var 1)).toB) ((x_lst (ar_nil)).toB))))) (s_one (s_ret (x_bl))) (s_nil)) (s_one (s_ret (o_call o_law_number hr (by rfl) (ar_val (x_ix hr.units (b_var 0) ((x_int).toB)) (ar_val (x_int) (ar_val (x_int) (ar_nil))))))))
theorem sc_law_names_of : FnScope ["thing", "found", "part"] ["thing"] (defScope (st 22)) := ⟨rfl, rfl, rfl, by decide +kernel, rfl, by decide +kernel, by decide +kernel⟩
theorem w_law_names_of {k : Nat} {m_law_is_strand : Fn} {m_law_names_of : Fn} (D : Df K mg "_law_names_of" (st 22) ["thing"]) (B : Bi mg) (o_law_is_strand : Ok P w K mg base "_law_is_strand" k ["thing"] false [false] m_law_is_strand) (o_law_names_of : Ok P w K mg base "_law_names_of" k ["thing"] false [false] m_law_names_of) : Ok P w K mg base "_law_names_of" (k + 1) ["thing"] false [false] (runQ false 3 [false] (G_law_names_of m_law_is_strand m_law_names_of)) := by
  refine ok_of (N := ["thing", "found", "part"]) D sc_law_names_of rfl fun f cdv A outer s H E hr => ?_
  have sc := sc_law_names_of
  exact s_cons (s_if (t_val (o_call o_law_is_strand hr (by rfl) (ar_val (x_var 0) (ar_nil)))) (s_one (s_ret (x_lst (ar_val (x_ix hr.units (b_var 0) ((x_int).toB)) (ar_nil))))) (s_nil)) (s_cons (s_if (w_pt (w_or (t_not (t_val (x_isi (tn := "tuple") (by rfl) B.isinstance (by rfl) B.tuple (by decide +kernel) kit_tuple (b_var 0)))) (w_or1 (t_lt ((x_len (by rfl) B.len (b_var 0)).toB) ((x_int).toB))))) (s_one (s_ret (x_lst (ar_val (x_non) (ar_nil))))) (s_nil)) (s_cons (s_set (i := 1) sc.nd (by rfl) (by first | exact Or.inl rfl | exact Or.inr rfl) (x_lst (ar_nil))) (s_cons (s_for (is := [2]) PassesOwn.never rfl (i_seq (x_var 0)) (pg_name (i := 2) sc.nd (by rfl) (by first | exact Or.inl rfl | exact Or.inr rfl)) (tg_name _ (i := 2) (by decide)) (s_one (s_set (i := 1) sc.nd (by rfl) (by first | exact Or.inl rfl | exact Or.inr rfl) (x_add (b_var 1) ((o_call o_law_names_of hr (by rfl) (ar_val (x_var 2) (ar_nil))).toB))))) (s_one (s_ret (x_var 1))))))
theorem r_law_names_of (D : Df K mg "_law_names_of" (st 22) ["thing"]) (B : Bi mg) {q : Nat} (o_law_is_strand : Ok P w K mg base "_law_is_strand" q ["thing"] false [false] m_law_is_strand) : ∀ n, Ok P w K mg base "_law_names_of" (q + n) ["thing"] false [false] (mf_law_names_of n)
  | 0 => ok_none D
  | n + 1 => w_law_names_of D B (o_law_is_strand.mono (Nat.le_add_right _ _)) (r_law_names_of D B o_law_is_strand n)
theorem sc_law_is_cord : FnScope ["thing", "names"] ["thing"] (defScope (st 23)) := ⟨rfl, rfl, rfl, by decide +kernel, rfl, by decide +kernel, by decide +kernel⟩
theorem w_law_is_cord {k : Nat} {m_law_names_of : Fn} (D : Df K mg "_law_is_cord" (st 23) ["thing"]) (B : Bi mg) (o_law_names_of : Ok P w K mg base "_law_names_of" k ["thing"] false [false] m_law_names_of) : Ok P w K mg base "_law_is_cord" (k + 1) ["thing"] false [false] (runQ false 2 [false] (G_law_is_cord m_law_names_of)) := by
  refine ok_of (N := ["thing", "names"]) D sc_law_is_cord rfl fun f cdv A outer s H E hr => ?_
  have sc := sc_law_is_cord
  exact s_cons (s_set (i := 1) sc.nd (by rfl) (by first | exact Or.inl rfl | exact Or.inr rfl) (o_call o_law_names_of hr (by rfl) (ar_val (x_var 0) (ar_nil)))) (s_one (s_ret (x_and (x_notIn (hr65 hr) ((x_non).toB) (b_var 1)) (x_and (x_le ((x_len (by rfl) B.len (b_var 1)).toB) ((x_int).toB)) (x_one (x_eq hr.units ((x_lenSet rfl (by rfl) B.len (by rfl) B.set (b_var 1)).toB) ((x_len (by rfl) B.len (b_var 1)).toB)))))))
theorem sc_law : FnScope ["script", "row", "sign", "some", "odd", "strand", "at", "draws", "cord", "k", "line", "bent", "thing"] ["script"] (defScope (st 24)) := ⟨rfl, rfl, rfl, by decide +kernel, rfl, by decide +kernel, by decide +kernel⟩
theorem w_law {k : Nat} {m_law_draws : Fn} {m_law_cord : Fn} {m_law_bent : Fn} {m_law_thing : Fn} {m_is_cord : Fn} {m_law_is_cord : Fn} {m_law_truly : Fn} {f : Addr} {fd : FuncData} (Fu : L2.Fun K "law" "law" (st 24) f fd) (B : Bi mg) (o_law_draws : Ok P w K mg base "_law_draws" k ["script", "k", "many", "base"] false [false, false, false, false] m_law_draws) (o_law_cord : Ok P w K mg base "_law_cord" k ["draws", "most"] false [false, false] m_law_cord) (o_law_bent : Ok P w K mg base "_law_bent" k ["thing", "draws"] false [false, false] m_law_bent) (o_law_thing : Ok P w K mg base "_law_thing" k ["draws", "deep"] false [false, false] m_law_thing) (o_is_cord : Ok P w K mg base "is_cord" k ["thing"] false [false] m_is_cord) (o_law_is_cord : Ok P w K mg base "_law_is_cord" k ["thing"] false [false] m_law_is_cord) (o_law_truly : Ok P w K mg base "_law_truly" k ["found", "due"] false [false, false] m_law_truly) : FnOk P w K mg base CX0 (k + 1) f fd ["script"] (spQ K false [false] (runQ false 13 [false] (G_law m_law_draws m_law_cord m_law_bent m_law_thing m_is_cord m_law_is_cord m_law_truly))) := by
  refine fn_ok (N := ["script", "row", "sign", "some", "odd", "strand", "at", "draws", "cord", "k", "line", "bent", "thing"]) (ms := [false]) (fr := false) Fu sc_law rfl rfl fun cdv A outer s H E hr => ?_
  have sc := sc_law
  exact s_cons (s_set (i := 1) sc.nd (by rfl) (by first | exact Or.inl rfl | exact Or.inr rfl) (x_tupleC (by rfl) B.tuple ((x_lc (own := [("sign", 2)]) rfl sc.nd (IX.br (i_seq (x_str))) (blkOk_by (N := ["script", "row", "sign", "some", "odd", "strand", "at", "draws", "cord", "k", "line", "bent", "thing"]) (sc := defScope (st 24)) (by decide +kernel)) (fun _ _ _ _ _ => pg_name (i := 2) sc.nd (by rfl) (by first | exact Or.inl rfl | exact Or.inr rfl)) (tg_name _ (i := 2) (by decide)) (fun _ _ _ _ _ => if_nil) (fun _ _ _ _ _ => x_tup (ar_val (x_var 2) (ar_val (x_int) (ar_nil))))).toB))) (s_cons (s_set (i := 3) sc.nd (by rfl) (by first | exact Or.inl rfl | exact Or.inr rfl) (x_lst (ar_val (x_var 1) (ar_val (x_cut (b_var 1) (p_none) (p_some ((x_int).toB))) (ar_val (x_cut (b_var 1) (p_none) (p_some ((x_int).toB))) (ar_val (x_cut (b_var 1) (p_none) (p_some ((x_int).toB))) (ar_val (x_ix hr.units (b_var 1) ((x_int).toB)) (ar_val (x_tup (ar_val (x_ix hr.units (b_var 1) ((x_int).toB)) (ar_val (x_cut (b_var 1) (p_some ((x_int).toB)) (p_some ((x_int).toB))) (ar_nil)))) (ar_val (x_tup (ar_val (x_cut (b_var 1) (p_none) (p_some ((x_int).toB))) (ar_val (x_cut (b_var 1) (p_none) (p_some ((x_int).toB))) (ar_nil)))) (ar_val (x_tup (ar_val (x_cut (b_var 1) (p_none) (p_some ((x_int).toB))) (ar_val (x_cut (b_var 1) (p_some ((x_int).toB)) (p_some ((x_int).toB))) (ar_nil)))) (ar_nil))))))))))) (s_cons (s_set (i := 4) sc.nd (by rfl) (by first | exact Or.inl rfl | exact Or.inr rfl) (x_lst (ar_val (x_tup (ar_val (x_str) (ar_val (x_int) (ar_nil)))) (ar_val (x_tup (ar_val (x_str) (ar_val (x_int) (ar_nil)))) (ar_val (x_tup (ar_val (x_str) (ar_val (x_int) (ar_nil)))) (ar_val (x_tup (ar_val (x_str) (ar_val (x_int) (ar_nil)))) (ar_val (x_tup (ar_val (x_str) (ar_val (x_int) (ar_nil)))) (ar_val (x_tup (ar_val (x_str) (ar_val (x_int) (ar_nil)))) (ar_val (x_tup (ar_val (x_str) (ar_val (x_bl) (ar_nil)))) (ar_nil)))))))))) (s_cons (s_for (is := [5]) PassesOwn.never rfl (i_seq (x_add (b_var 4) ((x_lst (ar_val (x_lst (ar_val (x_str) (ar_val (x_int) (ar_nil)))) (ar_val (x_tup (ar_val (x_str) (ar_val (x_int) (ar_val (x_int) (ar_nil))))) (ar_nil)))).toB))) (pg_name (i := 5) sc.nd (by rfl) (by first | exact Or.inl rfl | exact Or.inr rfl)) (tg_name _ (i := 5) (by decide)) (s_one (s_set (i := 3) sc.nd (by rfl) (by first | exact Or.inl rfl | exact Or.inr rfl) (x_add (b_var 3) ((x_lst (ar_val (x_var 5) (ar_val (x_tup (ar_val (x_var 5) (ar_val (x_tup (ar_val (x_str) (ar_val (x_int) (ar_nil)))) (ar_nil)))) (ar_val (x_tup (ar_val (x_tup (ar_val (x_var 5) (ar_nil))) (ar_val (x_tup (ar_val (x_str) (ar_val (x_int) (ar_nil)))) (ar_nil)))) (ar_nil))))).toB))))) (s_cons (s_for (is := [6]) PassesOwn.never rfl (i_seq (x_tup (ar_val (x_int) (ar_val (x_int) (ar_val (x_int) (ar_nil)))))) (pg_name (i := 6) sc.nd (by rfl) (by first | exact Or.inl rfl | exact Or.inr rfl)) (tg_name _ (i := 6) (by decide)) (s_cons (s_set (i := 7) sc.nd (by rfl) (by first | exact Or.inl rfl | exact Or.inr rfl) (o_call o_law_draws hr (by rfl) (ar_val (x_var 0) (ar_val (x_var 6) (ar_val (x_int) (ar_val (x_int) (ar_nil))))))) (s_cons (s_set (i := 8) sc.nd (by rfl) (by first | exact Or.inl rfl | exact Or.inr rfl) (o_call o_law_cord hr (by rfl) (ar_val (x_var 7) (ar_val (x_int) (ar_nil))))) (s_cons (s_set (i := 3) sc.nd (by rfl) (by first | exact Or.inl rfl | exact Or.inr rfl) (x_add (b_var 3) ((x_lst (ar_val (x_var 8) (ar_val (x_listC (by rfl) B.list (b_var 8)) (ar_val (x_tup (ar_val (x_var 8) (ar_val (x_var 8) (ar_nil)))) (ar_val (x_tup (ar_val (x_var 8) (ar_val (x_tup (ar_val (x_str) (ar_val (x_int) (ar_nil)))) (ar_nil)))) (ar_val (x_tup (ar_val (x_var 8) (ar_nil))) (ar_val (x_tup (ar_val (x_tup (ar_val (x_str) (ar_val (x_int) (ar_nil)))) (ar_val (x_tup (ar_val (x_str) (ar_val (x_int) (ar_nil)))) (ar_val (x_var 8) (ar_nil))))) (ar_nil)))))))).toB))) (s_one (s_for (is := [9]) PassesOwn.never rfl (i_rng (by rfl) B.range (x_int)) (pg_name (i := 9) sc.nd (by rfl) (by first | exact Or.inl rfl | exact Or.inr rfl)) (tg_name _ (i := 9) (by decide)) (s_cons (s_set (i := 10) sc.nd (by rfl) (by first | exact Or.inl rfl | exact Or.inr rfl) (x_cut (b_var 7) (p_some ((x_mul ((x_int).toB) (b_var 9)).toB)) (p_some ((x_add ((x_mul ((x_int).toB) (b_var 9)).toB) ((x_int).toB)).toB)))) (s_cons (s_set (i := 11) sc.nd (by rfl) (by first | exact Or.inl rfl | exact Or.inr rfl) (o_call o_law_bent hr (by rfl) (ar_val (x_var 8) (ar_val (x_var 10) (ar_nil))))) (s_one (s_set (i := 3) sc.nd (by rfl) (by first | exact Or.inl rfl | exact Or.inr rfl) (x_add (b_var 3) ((x_lst (ar_val (x_var 11) (ar_val (o_call o_law_bent hr (by rfl) (ar_val (x_var 11) (ar_val (x_rev (b_var 10)) (ar_nil)))) (ar_val (o_call o_law_thing hr (by rfl) (ar_val (x_add ((x_cut (b_var 7) (p_some (b_var 9)) (p_none)).toB) ((x_cut (b_var 7) (p_none) (p_some (b_var 9))).toB)) (ar_val (x_int) (ar_nil)))) (ar_nil))))).toB)))))))))))) (s_cons (s_for (is := [12]) PassesOwn.never rfl (i_seq (x_var 3)) (pg_name (i := 12) sc.nd (by rfl) (by first | exact Or.inl rfl | exact Or.inr rfl)) (tg_name _ (i := 12) (by decide)) (s_one (s_if (t_not (t_val (o_call o_law_truly hr (by rfl) (ar_val (o_call o_is_cord hr (by rfl) (ar_val (x_var 12) (ar_nil))) (ar_val (o_call o_law_is_cord hr (by rfl) (ar_val (x_var 12) (ar_nil))) (ar_nil)))))) (s_one (s_ret (x_bl))) (s_nil)))) (s_one (s_ret (x_bl))))))))
theorem all_mk {l : PySem.W.OpenLaw} {w : World} {K : PySem.W.Frag} {h : Heap} {mg : Str → Option Value} {fa f_is_number f_is_name f_is_strand f_is_tied_so f_is_one f_strands_of f_is_cord f_law_cell f_law_draws f_law_number f_law_truly f_law_places f_law_other f_law_shifted f_law_put f_law_bent f_law_thing f_law_tied f_law_cord f_law_is_strand f_law_names_of f_law_is_cord f_law : Addr} (X : K.In h) (G : h.Ns mainGlobals mg) (hfa : mg "law" = some (.ref fa))
    {od_is_number an_is_number od_is_name an_is_name od_is_strand an_is_strand od_is_tied_so an_is_tied_so od_is_one an_is_one od_strands_of an_strands_of od_is_cord an_is_cord od_law_cell an_law_cell od_law_draws an_law_draws od_law_number an_law_number od_law_truly an_law_truly od_law_places an_law_places od_law_other an_law_other od_law_shifted an_law_shifted od_law_put an_law_put od_law_bent an_law_bent od_law_thing an_law_thing od_law_tied an_law_tied od_law_cord an_law_cord od_law_is_strand an_law_is_strand od_law_names_of an_law_names_of od_law_is_cord an_law_is_cord od_law an_law : Option Addr} {sl_is_number sl_is_name sl_is_strand sl_is_tied_so sl_is_one sl_strands_of sl_is_cord sl_law_cell sl_law_draws sl_law_number sl_law_truly sl_law_places sl_law_other sl_law_shifted sl_law_put sl_law_bent sl_law_thing sl_law_tied sl_law_cord sl_law_is_strand sl_law_names_of sl_law_is_cord sl_law : Array (Option Value)} {oc_is_number kV_is_number dc_is_number pm_is_number cd_is_number ct_is_number oc_is_name kV_is_name dc_is_name pm_is_name cd_is_name ct_is_name oc_is_strand kV_is_strand dc_is_strand pm_is_strand cd_is_strand ct_is_strand oc_is_tied_so kV_is_tied_so dc_is_tied_so pm_is_tied_so cd_is_tied_so ct_is_tied_so oc_is_one kV_is_one dc_is_one pm_is_one cd_is_one ct_is_one oc_strands_of kV_strands_of dc_strands_of pm_strands_of cd_strands_of ct_strands_of oc_is_cord kV_is_cord dc_is_cord pm_is_cord cd_is_cord ct_is_cord oc_law_cell kV_law_cell dc_law_cell pm_law_cell cd_law_cell ct_law_cell oc_law_draws kV_law_draws dc_law_draws pm_law_draws cd_law_draws ct_law_draws oc_law_number kV_law_number dc_law_number pm_law_number cd_law_number ct_law_number oc_law_truly kV_law_truly dc_law_truly pm_law_truly cd_law_truly ct_law_truly oc_law_places kV_law_places dc_law_places pm_law_places cd_law_places ct_law_places oc_law_other kV_law_other dc_law_other pm_law_other cd_law_other ct_law_other oc_law_shifted kV_law_shifted dc_law_shifted pm_law_shifted cd_law_shifted ct_law_shifted oc_law_put kV_law_put dc_law_put pm_law_put cd_law_put ct_law_put oc_law_bent kV_law_bent dc_law_bent pm_law_bent cd_law_bent ct_law_bent oc_law_thing kV_law_thing dc_law_thing pm_law_thing cd_law_thing ct_law_thing oc_law_tied kV_law_tied dc_law_tied pm_law_tied cd_law_tied ct_law_tied oc_law_cord kV_law_cord dc_law_cord pm_law_cord cd_law_cord ct_law_cord oc_law_is_strand kV_law_is_strand dc_law_is_strand pm_law_is_strand cd_law_is_strand ct_law_is_strand oc_law_names_of kV_law_names_of dc_law_names_of pm_law_names_of cd_law_names_of ct_law_names_of oc_law_is_cord kV_law_is_cord dc_law_is_cord pm_law_is_cord cd_law_is_cord ct_law_is_cord oc_law kV_law dc_law pm_law cd_law ct_law : Value}
    (a_is_number : PySem.W.nsIn K mainGlobals "is_number" = some (some (.ref f_is_number))) (l_is_number : K.lookup f_is_number = some ⟨oc_is_number, od_is_number, .func (PySem.W.fnOf "is_number" "is_number" (defArgs (st 1)) (defBody (st 1)) (defScope (st 1)) .none kV_is_number dc_is_number pm_is_number an_is_number cd_is_number ct_is_number), sl_is_number⟩) (c_is_number : PySem.W.codeIn K cd_is_number "is_number" = true) (k_is_number : PySem.W.keepIn K (.ref f_is_number) = true)
    (a_is_name : PySem.W.nsIn K mainGlobals "is_name" = some (some (.ref f_is_name))) (l_is_name : K.lookup f_is_name = some ⟨oc_is_name, od_is_name, .func (PySem.W.fnOf "is_name" "is_name" (defArgs (st 2)) (defBody (st 2)) (defScope (st 2)) .none kV_is_name dc_is_name pm_is_name an_is_name cd_is_name ct_is_name), sl_is_name⟩) (c_is_name : PySem.W.codeIn K cd_is_name "is_name" = true) (k_is_name : PySem.W.keepIn K (.ref f_is_name) = true)
    (a_is_strand : PySem.W.nsIn K mainGlobals "is_strand" = some (some (.ref f_is_strand))) (l_is_strand : K.lookup f_is_strand = some ⟨oc_is_strand, od_is_strand, .func (PySem.W.fnOf "is_strand" "is_strand" (defArgs (st 3)) (defBody (st 3)) (defScope (st 3)) .none kV_is_strand dc_is_strand pm_is_strand an_is_strand cd_is_strand ct_is_strand), sl_is_strand⟩) (c_is_strand : PySem.W.codeIn K cd_is_strand "is_strand" = true) (k_is_strand : PySem.W.keepIn K (.ref f_is_strand) = true)
    (a_is_tied_so : PySem.W.nsIn K mainGlobals "is_tied_so" = some (some (.ref f_is_tied_so))) (l_is_tied_so : K.lookup f_is_tied_so = some ⟨oc_is_tied_so, od_is_tied_so, .func (PySem.W.fnOf "is_tied_so" "is_tied_so" (defArgs (st 4)) (defBody (st 4)) (defScope (st 4)) .none kV_is_tied_so dc_is_tied_so pm_is_tied_so an_is_tied_so cd_is_tied_so ct_is_tied_so), sl_is_tied_so⟩) (c_is_tied_so : PySem.W.codeIn K cd_is_tied_so "is_tied_so" = true) (k_is_tied_so : PySem.W.keepIn K (.ref f_is_tied_so) = true)
    (a_is_one : PySem.W.nsIn K mainGlobals "is_one" = some (some (.ref f_is_one))) (l_is_one : K.lookup f_is_one = some ⟨oc_is_one, od_is_one, .func (PySem.W.fnOf "is_one" "is_one" (defArgs (st 5)) (defBody (st 5)) (defScope (st 5)) .none kV_is_one dc_is_one pm_is_one an_is_one cd_is_one ct_is_one), sl_is_one⟩) (c_is_one : PySem.W.codeIn K cd_is_one "is_one" = true) (k_is_one : PySem.W.keepIn K (.ref f_is_one) = true)
    (a_strands_of : PySem.W.nsIn K mainGlobals "strands_of" = some (some (.ref f_strands_of))) (l_strands_of : K.lookup f_strands_of = some ⟨oc_strands_of, od_strands_of, .func (PySem.W.fnOf "strands_of" "strands_of" (defArgs (st 6)) (defBody (st 6)) (defScope (st 6)) .none kV_strands_of dc_strands_of pm_strands_of an_strands_of cd_strands_of ct_strands_of), sl_strands_of⟩) (c_strands_of : PySem.W.codeIn K cd_strands_of "strands_of" = true) (k_strands_of : PySem.W.keepIn K (.ref f_strands_of) = true)
    (a_is_cord : PySem.W.nsIn K mainGlobals "is_cord" = some (some (.ref f_is_cord))) (l_is_cord : K.lookup f_is_cord = some ⟨oc_is_cord, od_is_cord, .func (PySem.W.fnOf "is_cord" "is_cord" (defArgs (st 7)) (defBody (st 7)) (defScope (st 7)) .none kV_is_cord dc_is_cord pm_is_cord an_is_cord cd_is_cord ct_is_cord), sl_is_cord⟩) (c_is_cord : PySem.W.codeIn K cd_is_cord "is_cord" = true) (k_is_cord : PySem.W.keepIn K (.ref f_is_cord) = true)
    (a_law_cell : PySem.W.nsIn K mainGlobals "_law_cell" = some (some (.ref f_law_cell))) (l_law_cell : K.lookup f_law_cell = some ⟨oc_law_cell, od_law_cell, .func (PySem.W.fnOf "_law_cell" "_law_cell" (defArgs (st 9)) (defBody (st 9)) (defScope (st 9)) .none kV_law_cell dc_law_cell pm_law_cell an_law_cell cd_law_cell ct_law_cell), sl_law_cell⟩) (c_law_cell : PySem.W.codeIn K cd_law_cell "_law_cell" = true) (k_law_cell : PySem.W.keepIn K (.ref f_law_cell) = true)
    (a_law_draws : PySem.W.nsIn K mainGlobals "_law_draws" = some (some (.ref f_law_draws))) (l_law_draws : K.lookup f_law_draws = some ⟨oc_law_draws, od_law_draws, .func (PySem.W.fnOf "_law_draws" "_law_draws" (defArgs (st 10)) (defBody (st 10)) (defScope (st 10)) .none kV_law_draws dc_law_draws pm_law_draws an_law_draws cd_law_draws ct_law_draws), sl_law_draws⟩) (c_law_draws : PySem.W.codeIn K cd_law_draws "_law_draws" = true) (k_law_draws : PySem.W.keepIn K (.ref f_law_draws) = true)
    (a_law_number : PySem.W.nsIn K mainGlobals "_law_number" = some (some (.ref f_law_number))) (l_law_number : K.lookup f_law_number = some ⟨oc_law_number, od_law_number, .func (PySem.W.fnOf "_law_number" "_law_number" (defArgs (st 11)) (defBody (st 11)) (defScope (st 11)) .none kV_law_number dc_law_number pm_law_number an_law_number cd_law_number ct_law_number), sl_law_number⟩) (c_law_number : PySem.W.codeIn K cd_law_number "_law_number" = true) (k_law_number : PySem.W.keepIn K (.ref f_law_number) = true)
    (a_law_truly : PySem.W.nsIn K mainGlobals "_law_truly" = some (some (.ref f_law_truly))) (l_law_truly : K.lookup f_law_truly = some ⟨oc_law_truly, od_law_truly, .func (PySem.W.fnOf "_law_truly" "_law_truly" (defArgs (st 12)) (defBody (st 12)) (defScope (st 12)) .none kV_law_truly dc_law_truly pm_law_truly an_law_truly cd_law_truly ct_law_truly), sl_law_truly⟩) (c_law_truly : PySem.W.codeIn K cd_law_truly "_law_truly" = true) (k_law_truly : PySem.W.keepIn K (.ref f_law_truly) = true)
    (a_law_places : PySem.W.nsIn K mainGlobals "_law_places" = some (some (.ref f_law_places))) (l_law_places : K.lookup f_law_places = some ⟨oc_law_places, od_law_places, .func (PySem.W.fnOf "_law_places" "_law_places" (defArgs (st 13)) (defBody (st 13)) (defScope (st 13)) .none kV_law_places dc_law_places pm_law_places an_law_places cd_law_places ct_law_places), sl_law_places⟩) (c_law_places : PySem.W.codeIn K cd_law_places "_law_places" = true) (k_law_places : PySem.W.keepIn K (.ref f_law_places) = true)
    (a_law_other : PySem.W.nsIn K mainGlobals "_law_other" = some (some (.ref f_law_other))) (l_law_other : K.lookup f_law_other = some ⟨oc_law_other, od_law_other, .func (PySem.W.fnOf "_law_other" "_law_other" (defArgs (st 14)) (defBody (st 14)) (defScope (st 14)) .none kV_law_other dc_law_other pm_law_other an_law_other cd_law_other ct_law_other), sl_law_other⟩) (c_law_other : PySem.W.codeIn K cd_law_other "_law_other" = true) (k_law_other : PySem.W.keepIn K (.ref f_law_other) = true)
    (a_law_shifted : PySem.W.nsIn K mainGlobals "_law_shifted" = some (some (.ref f_law_shifted))) (l_law_shifted : K.lookup f_law_shifted = some ⟨oc_law_shifted, od_law_shifted, .func (PySem.W.fnOf "_law_shifted" "_law_shifted" (defArgs (st 15)) (defBody (st 15)) (defScope (st 15)) .none kV_law_shifted dc_law_shifted pm_law_shifted an_law_shifted cd_law_shifted ct_law_shifted), sl_law_shifted⟩) (c_law_shifted : PySem.W.codeIn K cd_law_shifted "_law_shifted" = true) (k_law_shifted : PySem.W.keepIn K (.ref f_law_shifted) = true)
    (a_law_put : PySem.W.nsIn K mainGlobals "_law_put" = some (some (.ref f_law_put))) (l_law_put : K.lookup f_law_put = some ⟨oc_law_put, od_law_put, .func (PySem.W.fnOf "_law_put" "_law_put" (defArgs (st 16)) (defBody (st 16)) (defScope (st 16)) .none kV_law_put dc_law_put pm_law_put an_law_put cd_law_put ct_law_put), sl_law_put⟩) (c_law_put : PySem.W.codeIn K cd_law_put "_law_put" = true) (k_law_put : PySem.W.keepIn K (.ref f_law_put) = true)
    (a_law_bent : PySem.W.nsIn K mainGlobals "_law_bent" = some (some (.ref f_law_bent))) (l_law_bent : K.lookup f_law_bent = some ⟨oc_law_bent, od_law_bent, .func (PySem.W.fnOf "_law_bent" "_law_bent" (defArgs (st 17)) (defBody (st 17)) (defScope (st 17)) .none kV_law_bent dc_law_bent pm_law_bent an_law_bent cd_law_bent ct_law_bent), sl_law_bent⟩) (c_law_bent : PySem.W.codeIn K cd_law_bent "_law_bent" = true) (k_law_bent : PySem.W.keepIn K (.ref f_law_bent) = true)
    (a_law_thing : PySem.W.nsIn K mainGlobals "_law_thing" = some (some (.ref f_law_thing))) (l_law_thing : K.lookup f_law_thing = some ⟨oc_law_thing, od_law_thing, .func (PySem.W.fnOf "_law_thing" "_law_thing" (defArgs (st 18)) (defBody (st 18)) (defScope (st 18)) .none kV_law_thing dc_law_thing pm_law_thing an_law_thing cd_law_thing ct_law_thing), sl_law_thing⟩) (c_law_thing : PySem.W.codeIn K cd_law_thing "_law_thing" = true) (k_law_thing : PySem.W.keepIn K (.ref f_law_thing) = true)
    (a_law_tied : PySem.W.nsIn K mainGlobals "_law_tied" = some (some (.ref f_law_tied))) (l_law_tied : K.lookup f_law_tied = some ⟨oc_law_tied, od_law_tied, .func (PySem.W.fnOf "_law_tied" "_law_tied" (defArgs (st 19)) (defBody (st 19)) (defScope (st 19)) .none kV_law_tied dc_law_tied pm_law_tied an_law_tied cd_law_tied ct_law_tied), sl_law_tied⟩) (c_law_tied : PySem.W.codeIn K cd_law_tied "_law_tied" = true) (k_law_tied : PySem.W.keepIn K (.ref f_law_tied) = true)
    (a_law_cord : PySem.W.nsIn K mainGlobals "_law_cord" = some (some (.ref f_law_cord))) (l_law_cord : K.lookup f_law_cord = some ⟨oc_law_cord, od_law_cord, .func (PySem.W.fnOf "_law_cord" "_law_cord" (defArgs (st 20)) (defBody (st 20)) (defScope (st 20)) .none kV_law_cord dc_law_cord pm_law_cord an_law_cord cd_law_cord ct_law_cord), sl_law_cord⟩) (c_law_cord : PySem.W.codeIn K cd_law_cord "_law_cord" = true) (k_law_cord : PySem.W.keepIn K (.ref f_law_cord) = true)
    (a_law_is_strand : PySem.W.nsIn K mainGlobals "_law_is_strand" = some (some (.ref f_law_is_strand))) (l_law_is_strand : K.lookup f_law_is_strand = some ⟨oc_law_is_strand, od_law_is_strand, .func (PySem.W.fnOf "_law_is_strand" "_law_is_strand" (defArgs (st 21)) (defBody (st 21)) (defScope (st 21)) .none kV_law_is_strand dc_law_is_strand pm_law_is_strand an_law_is_strand cd_law_is_strand ct_law_is_strand), sl_law_is_strand⟩) (c_law_is_strand : PySem.W.codeIn K cd_law_is_strand "_law_is_strand" = true) (k_law_is_strand : PySem.W.keepIn K (.ref f_law_is_strand) = true)
    (a_law_names_of : PySem.W.nsIn K mainGlobals "_law_names_of" = some (some (.ref f_law_names_of))) (l_law_names_of : K.lookup f_law_names_of = some ⟨oc_law_names_of, od_law_names_of, .func (PySem.W.fnOf "_law_names_of" "_law_names_of" (defArgs (st 22)) (defBody (st 22)) (defScope (st 22)) .none kV_law_names_of dc_law_names_of pm_law_names_of an_law_names_of cd_law_names_of ct_law_names_of), sl_law_names_of⟩) (c_law_names_of : PySem.W.codeIn K cd_law_names_of "_law_names_of" = true) (k_law_names_of : PySem.W.keepIn K (.ref f_law_names_of) = true)
    (a_law_is_cord : PySem.W.nsIn K mainGlobals "_law_is_cord" = some (some (.ref f_law_is_cord))) (l_law_is_cord : K.lookup f_law_is_cord = some ⟨oc_law_is_cord, od_law_is_cord, .func (PySem.W.fnOf "_law_is_cord" "_law_is_cord" (defArgs (st 23)) (defBody (st 23)) (defScope (st 23)) .none kV_law_is_cord dc_law_is_cord pm_law_is_cord an_law_is_cord cd_law_is_cord ct_law_is_cord), sl_law_is_cord⟩) (c_law_is_cord : PySem.W.codeIn K cd_law_is_cord "_law_is_cord" = true) (k_law_is_cord : PySem.W.keepIn K (.ref f_law_is_cord) = true)
    (a_law : PySem.W.nsIn K mainGlobals "law" = some (some (.ref f_law))) (l_law : K.lookup f_law = some ⟨oc_law, od_law, .func (PySem.W.fnOf "law" "law" (defArgs (st 24)) (defBody (st 24)) (defScope (st 24)) .none kV_law dc_law pm_law an_law cd_law ct_law), sl_law⟩) (c_law : PySem.W.codeIn K cd_law "law" = true) (k_law : PySem.W.keepIn K (.ref f_law) = true)
    (z_len : PySem.W.nsIn K mainGlobals "len" = some none)
    (z_isinstance : PySem.W.nsIn K mainGlobals "isinstance" = some none)
    (z_int : PySem.W.nsIn K mainGlobals "int" = some none)
    (z_bool : PySem.W.nsIn K mainGlobals "bool" = some none)
    (z_str : PySem.W.nsIn K mainGlobals "str" = some none)
    (z_tuple : PySem.W.nsIn K mainGlobals "tuple" = some none)
    (z_list : PySem.W.nsIn K mainGlobals "list" = some none)
    (z_sum : PySem.W.nsIn K mainGlobals "sum" = some none)
    (z_max : PySem.W.nsIn K mainGlobals "max" = some none)
    (z_min : PySem.W.nsIn K mainGlobals "min" = some none)
    (z_all : PySem.W.nsIn K mainGlobals "all" = some none)
    (z_any : PySem.W.nsIn K mainGlobals "any" = some none)
    (z_sorted : PySem.W.nsIn K mainGlobals "sorted" = some none)
    (z_range : PySem.W.nsIn K mainGlobals "range" = some none)
    (z_enumerate : PySem.W.nsIn K mainGlobals "enumerate" = some none)
    (z_zip : PySem.W.nsIn K mainGlobals "zip" = some none)
    (z_set : PySem.W.nsIn K mainGlobals "set" = some none)
    (z_dict : PySem.W.nsIn K mainGlobals "dict" = some none)
    : ∃ fd : FuncData, (∀ (s : Shared) (v : Value), BindsTo s fd ⟨[v], []⟩ [("script", v)]) ∧ ∀ base : Heap, K.In base → base.Ns mainGlobals mg → FnOk l.prog w K mg base CX0 28 fa fd ["script"] (spQ K false [false] m_law) := by
  cases hfa.symm.trans (PySem.W.mg_of X G a_law)
  have B : Bi mg := ⟨PySem.W.mg_none_of X G z_len, PySem.W.mg_none_of X G z_isinstance, PySem.W.mg_none_of X G z_int, PySem.W.mg_none_of X G z_bool, PySem.W.mg_none_of X G z_str, PySem.W.mg_none_of X G z_tuple, PySem.W.mg_none_of X G z_list, PySem.W.mg_none_of X G z_sum, PySem.W.mg_none_of X G z_max, PySem.W.mg_none_of X G z_min, PySem.W.mg_none_of X G z_all, PySem.W.mg_none_of X G z_any, PySem.W.mg_none_of X G z_sorted, PySem.W.mg_none_of X G z_range, PySem.W.mg_none_of X G z_enumerate, PySem.W.mg_none_of X G z_zip, PySem.W.mg_none_of X G z_set, PySem.W.mg_none_of X G z_dict⟩
  have D_is_number : Df K mg "is_number" (st 1) ["thing", "least", "most"] := df_mk X G (fun _ _ _ _ _ _ us hl => match us, hl with | [_, _, _], _ => rfl) a_is_number l_is_number c_is_number k_is_number
  have D_is_name : Df K mg "is_name" (st 2) ["thing"] := df_mk X G (fun _ _ _ _ _ _ us hl => match us, hl with | [_], _ => rfl) a_is_name l_is_name c_is_name k_is_name
  have D_is_strand : Df K mg "is_strand" (st 3) ["thing"] := df_mk X G (fun _ _ _ _ _ _ us hl => match us, hl with | [_], _ => rfl) a_is_strand l_is_strand c_is_strand k_is_strand
  have D_is_tied_so : Df K mg "is_tied_so" (st 4) ["thing"] := df_mk X G (fun _ _ _ _ _ _ us hl => match us, hl with | [_], _ => rfl) a_is_tied_so l_is_tied_so c_is_tied_so k_is_tied_so
  have D_is_one : Df K mg "is_one" (st 5) ["cord"] := df_mk X G (fun _ _ _ _ _ _ us hl => match us, hl with | [_], _ => rfl) a_is_one l_is_one c_is_one k_is_one
  have D_strands_of : Df K mg "strands_of" (st 6) ["cord"] := df_mk X G (fun _ _ _ _ _ _ us hl => match us, hl with | [_], _ => rfl) a_strands_of l_strands_of c_strands_of k_strands_of
  have D_is_cord : Df K mg "is_cord" (st 7) ["thing"] := df_mk X G (fun _ _ _ _ _ _ us hl => match us, hl with | [_], _ => rfl) a_is_cord l_is_cord c_is_cord k_is_cord
  have D_law_cell : Df K mg "_law_cell" (st 9) ["script", "k"] := df_mk X G (fun _ _ _ _ _ _ us hl => match us, hl with | [_, _], _ => rfl) a_law_cell l_law_cell c_law_cell k_law_cell
  have D_law_draws : Df K mg "_law_draws" (st 10) ["script", "k", "many", "base"] := df_mk X G (fun _ _ _ _ _ _ us hl => match us, hl with | [_, _, _, _], _ => rfl) a_law_draws l_law_draws c_law_draws k_law_draws
  have D_law_number : Df K mg "_law_number" (st 11) ["thing", "least", "most"] := df_mk X G (fun _ _ _ _ _ _ us hl => match us, hl with | [_, _, _], _ => rfl) a_law_number l_law_number c_law_number k_law_number
  have D_law_truly : Df K mg "_law_truly" (st 12) ["found", "due"] := df_mk X G (fun _ _ _ _ _ _ us hl => match us, hl with | [_, _], _ => rfl) a_law_truly l_law_truly c_law_truly k_law_truly
  have D_law_places : Df K mg "_law_places" (st 13) ["thing"] := df_mk X G (fun _ _ _ _ _ _ us hl => match us, hl with | [_], _ => rfl) a_law_places l_law_places c_law_places k_law_places
  have D_law_other : Df K mg "_law_other" (st 14) ["thing", "draws"] := df_mk X G (fun _ _ _ _ _ _ us hl => match us, hl with | [_, _], _ => rfl) a_law_other l_law_other c_law_other k_law_other
  have D_law_shifted : Df K mg "_law_shifted" (st 15) ["rows", "at", "draws"] := df_mk X G (fun _ _ _ _ _ _ us hl => match us, hl with | [_, _, _], _ => rfl) a_law_shifted l_law_shifted c_law_shifted k_law_shifted
  have D_law_put : Df K mg "_law_put" (st 16) ["thing", "path", "draws"] := df_mk X G (fun _ _ _ _ _ _ us hl => match us, hl with | [_, _, _], _ => rfl) a_law_put l_law_put c_law_put k_law_put
  have D_law_bent : Df K mg "_law_bent" (st 17) ["thing", "draws"] := df_mk X G (fun _ _ _ _ _ _ us hl => match us, hl with | [_, _], _ => rfl) a_law_bent l_law_bent c_law_bent k_law_bent
  have D_law_thing : Df K mg "_law_thing" (st 18) ["draws", "deep"] := df_mk X G (fun _ _ _ _ _ _ us hl => match us, hl with | [_, _], _ => rfl) a_law_thing l_law_thing c_law_thing k_law_thing
  have D_law_tied : Df K mg "_law_tied" (st 19) ["parts", "draws"] := df_mk X G (fun _ _ _ _ _ _ us hl => match us, hl with | [_, _], _ => rfl) a_law_tied l_law_tied c_law_tied k_law_tied
  have D_law_cord : Df K mg "_law_cord" (st 20) ["draws", "most"] := df_mk X G (fun _ _ _ _ _ _ us hl => match us, hl with | [_, _], _ => rfl) a_law_cord l_law_cord c_law_cord k_law_cord
  have D_law_is_strand : Df K mg "_law_is_strand" (st 21) ["thing"] := df_mk X G (fun _ _ _ _ _ _ us hl => match us, hl with | [_], _ => rfl) a_law_is_strand l_law_is_strand c_law_is_strand k_law_is_strand
  have D_law_names_of : Df K mg "_law_names_of" (st 22) ["thing"] := df_mk X G (fun _ _ _ _ _ _ us hl => match us, hl with | [_], _ => rfl) a_law_names_of l_law_names_of c_law_names_of k_law_names_of
  have D_law_is_cord : Df K mg "_law_is_cord" (st 23) ["thing"] := df_mk X G (fun _ _ _ _ _ _ us hl => match us, hl with | [_], _ => rfl) a_law_is_cord l_law_is_cord c_law_is_cord k_law_is_cord
  have FL := fun_mk (st := st 24) l_law c_law k_law
  refine ⟨PySem.W.fnOf "law" "law" (defArgs (st 24)) (defBody (st 24)) (defScope (st 24)) .none kV_law dc_law pm_law an_law cd_law ct_law, fun s v => .of_eq rfl, fun base _ _ => ?_⟩
  have O_is_number : Ok l.prog w K mg base "is_number" 1 ["thing", "least", "most"] false [false, false, false] m_is_number := w_is_number (k := 0) D_is_number B
  have O_is_name : Ok l.prog w K mg base "is_name" 1 ["thing"] false [false] m_is_name := w_is_name (k := 0) D_is_name B
  have O_is_strand : Ok l.prog w K mg base "is_strand" 2 ["thing"] false [false] m_is_strand := w_is_strand (k := 1) D_is_strand B (O_is_name.mono (by decide)) (O_is_number.mono (by decide))
  have O_is_tied_so : Ok l.prog w K mg base "is_tied_so" 26 ["thing"] false [false] m_is_tied_so := r_is_tied_so D_is_tied_so B (q := 2) (O_is_strand.mono (by decide)) 24
  have O_is_one : Ok l.prog w K mg base "is_one" 1 ["cord"] false [false] m_is_one := w_is_one (k := 0) D_is_one B
  have O_strands_of : Ok l.prog w K mg base "strands_of" 25 ["cord"] false [false] m_strands_of := r_strands_of D_strands_of B (q := 1) (O_is_one.mono (by decide)) 24
  have O_is_cord : Ok l.prog w K mg base "is_cord" 27 ["thing"] false [false] m_is_cord := w_is_cord (k := 26) D_is_cord B (O_is_tied_so.mono (by decide)) (O_strands_of.mono (by decide))
  have O_law_cell : Ok l.prog w K mg base "_law_cell" 1 ["script", "k"] false [false, false] m_law_cell := w_law_cell (k := 0) D_law_cell B
  have O_law_draws : Ok l.prog w K mg base "_law_draws" 2 ["script", "k", "many", "base"] false [false, false, false, false] m_law_draws := w_law_draws (k := 1) D_law_draws B (O_law_cell.mono (by decide))
  have O_law_number : Ok l.prog w K mg base "_law_number" 1 ["thing", "least", "most"] false [false, false, false] m_law_number := w_law_number (k := 0) D_law_number B
  have O_law_truly : Ok l.prog w K mg base "_law_truly" 1 ["found", "due"] false [false, false] m_law_truly := w_law_truly (k := 0) D_law_truly B
  have O_law_places : Ok l.prog w K mg base "_law_places" 24 ["thing"] false [false] m_law_places := r_law_places D_law_places B (q := 0) 24
  have O_law_other : Ok l.prog w K mg base "_law_other" 1 ["thing", "draws"] false [false, false] m_law_other := w_law_other (k := 0) D_law_other B
  have O_law_shifted : Ok l.prog w K mg base "_law_shifted" 1 ["rows", "at", "draws"] false [false, false, false] m_law_shifted := w_law_shifted (k := 0) D_law_shifted B
  have O_law_put : Ok l.prog w K mg base "_law_put" 25 ["thing", "path", "draws"] false [false, false, false] m_law_put := r_law_put D_law_put B (q := 1) (O_law_other.mono (by decide)) (O_law_shifted.mono (by decide)) 24
  have O_law_bent : Ok l.prog w K mg base "_law_bent" 26 ["thing", "draws"] false [false, false] m_law_bent := w_law_bent (k := 25) D_law_bent B (O_law_places.mono (by decide)) (O_law_put.mono (by decide))
  have O_law_thing : Ok l.prog w K mg base "_law_thing" 24 ["draws", "deep"] false [false, false] m_law_thing := r_law_thing D_law_thing B (q := 0) 24
  have O_law_tied : Ok l.prog w K mg base "_law_tied" 1 ["parts", "draws"] false [false, false] m_law_tied := w_law_tied (k := 0) D_law_tied B
  have O_law_cord : Ok l.prog w K mg base "_law_cord" 2 ["draws", "most"] false [false, false] m_law_cord := w_law_cord (k := 1) D_law_cord B (O_law_tied.mono (by decide))
  have O_law_is_strand : Ok l.prog w K mg base "_law_is_strand" 2 ["thing"] false [false] m_law_is_strand := w_law_is_strand (k := 1) D_law_is_strand B (O_law_number.mono (by decide))
  have O_law_names_of : Ok l.prog w K mg base "_law_names_of" 26 ["thing"] false [false] m_law_names_of := r_law_names_of D_law_names_of B (q := 2) (O_law_is_strand.mono (by decide)) 24
  have O_law_is_cord : Ok l.prog w K mg base "_law_is_cord" 27 ["thing"] false [false] m_law_is_cord := w_law_is_cord (k := 26) D_law_is_cord B (O_law_names_of.mono (by decide))
  exact w_law (k := 27) FL B (O_law_draws.mono (by decide)) (O_law_cord.mono (by decide)) (O_law_bent.mono (by decide)) (O_law_thing.mono (by decide)) (O_is_cord.mono (by decide)) (O_law_is_cord.mono (by decide)) (O_law_truly.mono (by decide))
end Wk
open PySem PySem.W PyProof.Rows
set_option maxRecDepth 100000 in
set_option maxHeartbeats 0 in
theorem PySem.Challenge.cw_sharecords_k01_cords_known_holds : PySem.Challenge.rw_sharecords_k01_cords_known.Holds := by
  w_on; o_law; k_head; (case hw => w_witness2)
  k_fill
  refine L2.walk_of (l := PySem.Challenge.rw_sharecords_k01_cords_known) (n := 63) (k := 28) (x := "script") (CX := fun _ => L2.CX0) (sp := fun w => Pu.spQ _ false [false] Mi.m_law) rfl (by decide) rfl ⟨rfl, by decide, by decide⟩ (fun w h Y => PySem.W.kIn_of Y) ?F (fun _ _ a ns hl _ hS => Pu.law_sp hS (Fact.law_true ns hl)) (fun _ _ _ _ _ h => h)
  case F =>
    intro w mg fa h KX G hmg
    refine' Wk.all_mk KX G hmg ?a_is_number ?l_is_number ?c_is_number ?k_is_number ?a_is_name ?l_is_name ?c_is_name ?k_is_name ?a_is_strand ?l_is_strand ?c_is_strand ?k_is_strand ?a_is_tied_so ?l_is_tied_so ?c_is_tied_so ?k_is_tied_so ?a_is_one ?l_is_one ?c_is_one ?k_is_one ?a_strands_of ?l_strands_of ?c_strands_of ?k_strands_of ?a_is_cord ?l_is_cord ?c_is_cord ?k_is_cord ?a_law_cell ?l_law_cell ?c_law_cell ?k_law_cell ?a_law_draws ?l_law_draws ?c_law_draws ?k_law_draws ?a_law_number ?l_law_number ?c_law_number ?k_law_number ?a_law_truly ?l_law_truly ?c_law_truly ?k_law_truly ?a_law_places ?l_law_places ?c_law_places ?k_law_places ?a_law_other ?l_law_other ?c_law_other ?k_law_other ?a_law_shifted ?l_law_shifted ?c_law_shifted ?k_law_shifted ?a_law_put ?l_law_put ?c_law_put ?k_law_put ?a_law_bent ?l_law_bent ?c_law_bent ?k_law_bent ?a_law_thing ?l_law_thing ?c_law_thing ?k_law_thing ?a_law_tied ?l_law_tied ?c_law_tied ?k_law_tied ?a_law_cord ?l_law_cord ?c_law_cord ?k_law_cord ?a_law_is_strand ?l_law_is_strand ?c_law_is_strand ?k_law_is_strand ?a_law_names_of ?l_law_names_of ?c_law_names_of ?k_law_names_of ?a_law_is_cord ?l_law_is_cord ?c_law_is_cord ?k_law_is_cord ?a_law ?l_law ?c_law ?k_law ?z_len ?z_isinstance ?z_int ?z_bool ?z_str ?z_tuple ?z_list ?z_sum ?z_max ?z_min ?z_all ?z_any ?z_sorted ?z_range ?z_enumerate ?z_zip ?z_set ?z_dict
    (case a_is_number => k_is); (case l_is_number => k_is); (case c_is_number => k_is); (case k_is_number => k_is)
    (case a_is_name => k_is); (case l_is_name => k_is); (case c_is_name => k_is); (case k_is_name => k_is)
    (case a_is_strand => k_is); (case l_is_strand => k_is); (case c_is_strand => k_is); (case k_is_strand => k_is)
    (case a_is_tied_so => k_is); (case l_is_tied_so => k_is); (case c_is_tied_so => k_is); (case k_is_tied_so => k_is)
    (case a_is_one => k_is); (case l_is_one => k_is); (case c_is_one => k_is); (case k_is_one => k_is)
    (case a_strands_of => k_is); (case l_strands_of => k_is); (case c_strands_of => k_is); (case k_strands_of => k_is)
    (case a_is_cord => k_is); (case l_is_cord => k_is); (case c_is_cord => k_is); (case k_is_cord => k_is)
    (case a_law_cell => k_is); (case l_law_cell => k_is); (case c_law_cell => k_is); (case k_law_cell => k_is)
    (case a_law_draws => k_is); (case l_law_draws => k_is); (case c_law_draws => k_is); (case k_law_draws => k_is)
    (case a_law_number => k_is); (case l_law_number => k_is); (case c_law_number => k_is); (case k_law_number => k_is)
    (case a_law_truly => k_is); (case l_law_truly => k_is); (case c_law_truly => k_is); (case k_law_truly => k_is)
    (case a_law_places => k_is); (case l_law_places => k_is); (case c_law_places => k_is); (case k_law_places => k_is)
    (case a_law_other => k_is); (case l_law_other => k_is); (case c_law_other => k_is); (case k_law_other => k_is)
    (case a_law_shifted => k_is); (case l_law_shifted => k_is); (case c_law_shifted => k_is); (case k_law_shifted => k_is)
    (case a_law_put => k_is); (case l_law_put => k_is); (case c_law_put => k_is); (case k_law_put => k_is)
    (case a_law_bent => k_is); (case l_law_bent => k_is); (case c_law_bent => k_is); (case k_law_bent => k_is)
    (case a_law_thing => k_is); (case l_law_thing => k_is); (case c_law_thing => k_is); (case k_law_thing => k_is)
    (case a_law_tied => k_is); (case l_law_tied => k_is); (case c_law_tied => k_is); (case k_law_tied => k_is)
    (case a_law_cord => k_is); (case l_law_cord => k_is); (case c_law_cord => k_is); (case k_law_cord => k_is)
    (case a_law_is_strand => k_is); (case l_law_is_strand => k_is); (case c_law_is_strand => k_is); (case k_law_is_strand => k_is)
    (case a_law_names_of => k_is); (case l_law_names_of => k_is); (case c_law_names_of => k_is); (case k_law_names_of => k_is)
    (case a_law_is_cord => k_is); (case l_law_is_cord => k_is); (case c_law_is_cord => k_is); (case k_law_is_cord => k_is)
    (case a_law => k_is); (case l_law => k_is); (case c_law => k_is); (case k_law => k_is)
    (case z_len => k_is)
    (case z_isinstance => k_is)
    (case z_int => k_is)
    (case z_bool => k_is)
    (case z_str => k_is)
    (case z_tuple => k_is)
    (case z_list => k_is)
    (case z_sum => k_is)
    (case z_max => k_is)
    (case z_min => k_is)
    (case z_all => k_is)
    (case z_any => k_is)
    (case z_sorted => k_is)
    (case z_range => k_is)
    (case z_enumerate => k_is)
    (case z_zip => k_is)
    (case z_set => k_is)
    (case z_dict => k_is)
