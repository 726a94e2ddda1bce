import PyProof.Rows.All
import Wide.All
import OpenK.AllK
import Wide.FinOn
import HandS.ForMost
import HandS.Flow
import HandS.Style
import HandS.TupAny
import HandS.IsInst
import HandS.Deep
import HandS.TupMul
import HandS.Zip
import HandS.Defaults
import KE.KStateDown
import HandS.EndBits
import HandS.Head0
import HandS.Head1
import HandS.Head2
import HandS.HeadEnd
import HandS.HeadHook1
import HandS.HeadHook2
import PySem.Challenge.RW_throughall_k06_kinds
set_option Elab.async false
set_option linter.all false
set_option maxRecDepth 100000
set_option maxHeartbeats 2000000
/-! A small pure language for the text's defs: data are trees, lists that a def fills are owned by a slot, one deck (the law's source of draws) is threaded. -/
namespace TA
open PySem

/-- a value of the small language: data, a list that nobody else holds, the deck -/
inductive DV where
  | d (x : PyData)
  | own (xs : List PyData)
  | dk
/-- the deck: cells (the next one last), the hash, the count -/
structure Dk where
  cells : List Int
  tot : Int
  cnt : Int
abbrev Env := List (Option DV)
abbrev OD := Option Dk
abbrev Cm (α : Type) := Env → OD → Option (α × OD)
def Cm.ret {α : Type} (a : α) : Cm α := fun _ k => some (a, k)
def Cm.lift {α : Type} (o : Option α) : Cm α := fun _ k => match o with
  | none => none
  | some a => some (a, k)
def Cm.bnd {α β : Type} (f : Cm α) (g : α → Cm β) : Cm β := fun ρ k => match f ρ k with
  | none => none
  | some (a, k') => g a ρ k'

def DV.dat : DV → Option PyData
  | .d x => some x
  | .own xs => some (.list xs)
  | .dk => none
/-- as it is handed on -/
def DV.fz : DV → DV
  | .own xs => .d (.list xs)
  | v => v

/-- how a target takes an item: a name's slot, or a tuple of names -/
inductive Tg where
  | one (i : Nat)
  | many (is : List Nat)
def setMany : List Nat → List PyData → Env → Option Env
  | [], [], ρ => some ρ
  | i :: is, x :: xs, ρ => setMany is xs (ρ.set i (some (.d x)))
  | _, _, _ => none
def setTg : Tg → PyData → Env → Option Env
  | .one i, x, ρ => some (ρ.set i (some (.d x)))
  | .many is, .tuple xs, ρ => setMany is xs ρ
  | _, _, _ => none
def wipeE (ρ : Env) : List Nat → Env
  | [] => ρ
  | v :: vs => (wipeE ρ vs).set v none
def Tg.slots : Tg → List Nat
  | .one i => [i]
  | .many is => is

inductive Ty where
  | int | str | bool | tuple | list | dict
  deriving DecidableEq
inductive B where
  | len | repr | int | abs | tuple | list | all | any | sum | max | min
  deriving DecidableEq

mutual
inductive E where
  | var (i : Nat)
  | non
  | bl (b : Bool)
  | int (i : Int)
  | str (x : Str)
  | glb (n : Nat)
  | tup (es : Es)
  | lst (es : Es)
  | bin (op : Operator) (a b : E)
  | neg (a : E)
  | cmp (op : CmpOp) (a b : E)
  | chain (o1 o2 : CmpOp) (a b c : E)
  | isN (a : E)
  | notN (a : E)
  | not (a : E)
  | bop (isAnd : Bool) (es : Es)
  | ife (t a b : E)
  | idx (a i : E)
  | slA (a lo : E)
  | slB (a hi : E)
  | slAB (a lo hi : E)
  | rev (a : E)
  | call (f : Nat) (es : Es)
  | callk (f : Nat) (kn : Nat) (ks : Es)
  | blt (b : B) (es : Es)
  | isi (a : E) (ts : List Ty)
  | comp (elt : E) (tg : Tg) (src : E)
  | compIf (elt : E) (tg : Tg) (src cond : E)
  | dict0
  | dict1 (a b : E)
  | rng1 (a : E)
  | rng2 (a b : E)
  | zip (strict : Bool) (a b : E)
  | enum (a : E)
  | join (a b : E)
  | split (a b : E)
  | dkTot (i : Nat)
  | dkCnt (i : Nat)
  | dkNE (i : Nat)
  | dkPop (i : Nat)
inductive Es where
  | nil
  | cons (e : E) (es : Es)
end
mutual
inductive S where
  | set (i : Nat) (e : E)
  | setLc (i : Nat) (e : E)
  | par (is : List Nat) (es : Es)
  | unp (is : List Nat) (e : E)
  | aug (i : Nat) (op : Operator) (e : E)
  | ite (t : E) (a b : Ss)
  | loop (tg : Tg) (src : E) (b : Ss)
  | whil (t : E) (b : Ss)
  | ret (e : E)
  | retN
  | retDk (a b c : E)
  | app (i : Nat) (e : E)
  | popAt (j i : Nat) (e : E)
  | frz (i : Nat)
  | dkSet (i : Nat) (e : E)
  | dkPush (i : Nat) (e : E)
  | brk
  | cont
inductive Ss where
  | nil
  | cons (s : S) (ss : Ss)
end

/-! ### what the operations do with data -/
def truthD : PyData → Option Bool
  | .none => some false
  | .bool b => some b
  | .int i => some (i != 0)
  | .str x => if x.length ≤ sizeLine then some ((x.length : Int) != 0) else none
  | .list xs => some (!xs.isEmpty)
  | .tuple xs => some (!xs.isEmpty)
  | .dict kvs => some (!kvs.isEmpty)
def smallI (i : Int) : Bool := decide (-(2 ^ 64) < i) && decide (i < 2 ^ 64)
def binD : Operator → PyData → PyData → Option DV
  | .Add, .int i, .int j => some (.d (.int (i + j)))
  | .Sub, .int i, .int j => some (.d (.int (i - j)))
  | .Mult, .int i, .int j => if smallI i || smallI j then some (.d (.int (i * j))) else none
  | .FloorDiv, .int i, .int j => if 0 < j ∧ j < 1073741824 then some (.d (.int (i / j))) else none
  | .Mod, .int i, .int j => if 0 < j then some (.d (.int (i % j))) else none
  | .Pow, .int i, .int j => if 0 ≤ j ∧ j ≤ 1000 ∧ i.natAbs < 2 ^ 64 then some (.d (.int (i ^ j.toNat))) else none
  | .Add, .str x, .str y => if x.length + y.length ≤ sizeLine then some (.d (.str (x ++ y))) else none
  | .Add, .list xs, .list ys => if xs.length + ys.length ≤ sizeLine then some (.own (xs ++ ys)) else none
  | .Add, .tuple xs, .tuple ys => if xs.length + ys.length ≤ sizeLine then some (.d (.tuple (xs ++ ys))) else none
  | .Mult, .list xs, .int k => if 0 ≤ k ∧ k ≤ 100000 ∧ xs.length * k.toNat ≤ sizeLine then some (.own (List.replicate k.toNat xs).flatten) else none
  | .Mult, .tuple xs, .int k => if 1 ≤ k ∧ k ≤ 100000 ∧ xs.length * k.toNat ≤ 100000 then some (.d (.tuple (List.replicate k.toNat xs).flatten)) else none
  | .Mult, .str x, .int k => if 1 ≤ k ∧ k ≤ 100000 ∧ x.length * k.toNat ≤ 100000 then some (.d (.str (Txt.mul x k))) else none
  | _, _, _ => none
def isFlat : PyData → Bool
  | .none | .bool _ | .int _ | .str _ => true
  | _ => false
def cmpD : CmpOp → PyData → PyData → Option Bool
  | .Eq, .str x, .str y => some (x == y)
  | .NotEq, .str x, .str y => some (!(x == y))
  | .Eq, .list (_ :: _), .list [] => some false
  | .Eq, a, b => if SeqAt.shaped a && SeqAt.shaped b then some (PyData.eqv a b) else none
  | .NotEq, a, b => if SeqAt.shaped a && SeqAt.shaped b then some (!PyData.eqv a b) else none
  | .Lt, .int i, .int j => some (decide (i < j))
  | .LtE, .int i, .int j => some (decide (i ≤ j))
  | .Gt, .int i, .int j => some (decide (j < i))
  | .GtE, .int i, .int j => some (decide (j ≤ i))
  | .In, a, .list xs => if SeqAt.shaped a && SeqAt.shaped (.list xs) then some (xs.any fun z => PyData.eqv z a) else none
  | .NotIn, a, .list xs => if SeqAt.shaped a && SeqAt.shaped (.list xs) then some (!xs.any fun z => PyData.eqv z a) else none
  | .In, a, .tuple xs => if isFlat a && xs.all isFlat then some (xs.any fun z => PyData.eqv z a) else none
  | .NotIn, a, .tuple xs => if isFlat a && xs.all isFlat then some (!xs.any fun z => PyData.eqv z a) else none
  | _, _, _ => none
def isNone : PyData → Bool
  | .none => true
  | _ => false
def idxD : PyData → PyData → Option PyData
  | .list xs, .int i => L2.atI xs i
  | .tuple xs, .int i => L2.atI xs i
  | .str x, .int i => if x.length ≤ sizeLine then (L2.atI x.cps.toList i).map fun c => .str ⟨#[c]⟩ else none
  | _, _ => none
def cutL {α : Type} (xs : List α) (lo hi : Option Int) : List α := (xs.drop (HT.sIx xs.length 0 lo)).take (HT.sIx xs.length xs.length hi - HT.sIx xs.length 0 lo)
def slD (a : PyData) (lo hi : Option Int) : Option DV := match a with
  | .list xs => some (.own (cutL xs lo hi))
  | .tuple xs => some (.d (.tuple (cutL xs lo hi)))
  | .str x => if x.length ≤ sizeLine then some (.d (.str (L2.cutS x lo hi))) else none
  | _ => none
def intD : PyData → Option Int
  | .int i => some i
  | _ => none
def boolsD : List PyData → Option (List Bool)
  | [] => some []
  | .bool b :: r => match boolsD r with
    | some bs => some (b :: bs)
    | none => none
  | _ => none
def intsD : List PyData → Option (List Int)
  | [] => some []
  | .int b :: r => match intsD r with
    | some bs => some (b :: bs)
    | none => none
  | _ => none
def strsD : List PyData → Option (List Str)
  | [] => some []
  | .str b :: r => match strsD r with
    | some bs => some (b :: bs)
    | none => none
  | _ => none
def lenD : PyData → Option Int
  | .str x => if x.length ≤ sizeLine then some x.length else none
  | .list xs => some xs.length
  | .tuple xs => some xs.length
  | .dict kvs => some kvs.length
  | _ => none
/-- what repr can show -/
def repOk (a : PyData) : Bool := a.showable && decide (a.shown.length ≤ sizeLine) && decide (a.depth ≤ 100)
def lenB (a : PyData) : Option DV := (lenD a).map fun n => .d (.int n)
def repB (a : PyData) : Option DV := if repOk a then some (.d (.str a.shown)) else none
def intB : PyData → Option DV
  | .bool b => some (.d (.int (if b then 1 else 0)))
  | .int i => some (.d (.int i))
  | _ => none
def absB : PyData → Option DV
  | .int i => some (.d (.int (if i < 0 then -i else i)))
  | _ => none
def tupleB : PyData → Option DV
  | .list xs => some (.d (.tuple xs))
  | .tuple xs => some (.d (.tuple xs))
  | _ => none
def listB : PyData → Option DV
  | .list xs => some (.own xs)
  | .tuple xs => some (.own xs)
  | _ => none
def allB : PyData → Option DV
  | .list xs => (boolsD xs).map fun bs => .d (.bool (bs.all id))
  | _ => none
def anyB : PyData → Option DV
  | .list xs => (boolsD xs).map fun bs => .d (.bool (bs.any id))
  | _ => none
def sumB : PyData → Option DV
  | .list xs => (intsD xs).map fun ns => .d (.int ns.sum)
  | _ => none
def maxB : PyData → PyData → Option DV
  | .int i, .int j => some (.d (.int (if j > i then j else i)))
  | _, _ => none
def minB : PyData → PyData → Option DV
  | .int i, .int j => some (.d (.int (if j < i then j else i)))
  | _, _ => none
def blt1 : B → PyData → Option DV
  | .len => lenB
  | .repr => repB
  | .int => intB
  | .abs => absB
  | .tuple => tupleB
  | .list => listB
  | .all => allB
  | .any => anyB
  | .sum => sumB
  | _ => fun _ => none
def blt2 : B → PyData → PyData → Option DV
  | .max => maxB
  | .min => minB
  | _ => fun _ _ => none
def bltD (b : B) : List PyData → Option DV
  | [x] => blt1 b x
  | [x, y] => blt2 b x y
  | _ => none
def isTy : PyData → Ty → Bool
  | .int _, .int => true
  | .bool _, .int => true
  | .bool _, .bool => true
  | .str _, .str => true
  | .tuple _, .tuple => true
  | .list _, .list => true
  | .dict _, .dict => true
  | _, _ => false
def chars (x : Str) : List PyData := x.cps.toList.map fun c => .str ⟨#[c]⟩
def itemsD : PyData → Option (List PyData)
  | .list xs => some xs
  | .tuple xs => some xs
  | .str x => some (chars x)
  | _ => none
def rngL (lo : Int) (n : Nat) : List PyData := (List.range n).map fun (i : Nat) => .int (lo + (i : Int))
def rngOk (i : Int) : Bool := decide (-(2 ^ 62) ≤ i) && decide (i < 2 ^ 62)
def pairsL : List PyData → List PyData → List PyData
  | x :: xs, y :: ys => .tuple [x, y] :: pairsL xs ys
  | _, _ => []
def enumL : Nat → List PyData → List PyData
  | _, [] => []
  | n, x :: xs => .tuple [.int n, x] :: enumL (n + 1) xs

def zipD (s : Bool) : List PyData → Option DV
  | [.tuple xs, .tuple ys] => if !s || decide (xs.length = ys.length) then some (.d (.list (pairsL xs ys))) else none
  | [.list xs, .list ys] => if !s || decide (xs.length = ys.length) then some (.d (.list (pairsL xs ys))) else none
  | _ => none
def enumD : List PyData → Option DV
  | [.list xs] => some (.d (.list (enumL 0 xs)))
  | _ => none

/-! ### loops -/
def compL (tg : Tg) (elt : Cm DV) (cond : Cm Bool) : List PyData → Cm (List PyData)
  | [], _, k => some ([], k)
  | x :: xs, ρ, k => match setTg tg x (wipeE ρ tg.slots) with
    | none => none
    | some ρ' => match cond ρ' k with
      | none => none
      | some (false, k1) => compL tg elt cond xs ρ k1
      | some (true, k1) => match elt ρ' k1 with
        | none => none
        | some (y, k2) => match y.dat with
          | none => none
          | some d => match compL tg elt cond xs ρ k2 with
            | none => none
            | some (ds, k3) => some (d :: ds, k3)

inductive Fl where
  | nx (ρ : Env)
  | bk (ρ : Env)
  | ct (ρ : Env)
  | rt (v : DV)
abbrev Cs := Env → OD → Option (Fl × OD)
def forL (tg : Tg) (b : Cs) : List PyData → Cs
  | [], ρ, k => some (.nx ρ, k)
  | x :: xs, ρ, k => match setTg tg x ρ with
    | none => none
    | some ρ' => match b ρ' k with
      | none => none
      | some (.nx ρ2, k2) => forL tg b xs ρ2 k2
      | some (.ct ρ2, k2) => forL tg b xs ρ2 k2
      | some (.bk ρ2, k2) => some (.nx ρ2, k2)
      | some (.rt v, k2) => some (.rt v, k2)
def whileL (t : Cm Bool) (b : Cs) : Nat → Cs
  | 0, _, _ => none
  | n + 1, ρ, k => match t ρ k with
    | none => none
    | some (false, k1) => some (.nx ρ, k1)
    | some (true, k1) => match b ρ k1 with
      | none => none
      | some (.nx ρ2, k2) => whileL t b n ρ2 k2
      | some (.ct ρ2, k2) => whileL t b n ρ2 k2
      | some (.bk ρ2, k2) => some (.nx ρ2, k2)
      | some (.rt v, k2) => some (.rt v, k2)

/-! ### expressions -/
/-- an expression's meaning: its value, as an operand (an owned list may be looked at), as a test -/
structure Sm where
  v : Cm DV
  o : Cm PyData
  t : Cm Bool
def Sm.src (m : Sm) : Cm (List PyData) := m.v.bnd fun s => (Cm.lift (s.dat.bind itemsD)).bnd fun xs => .lift (if xs.length ≤ sizeLine then some xs else none)
def smV (f : Cm DV) : Sm := ⟨f, f.bnd fun r => .lift r.dat, f.bnd fun r => .lift (r.dat.bind truthD)⟩
def smB (f : Cm Bool) : Sm := ⟨f.bnd fun b => .ret (.d (.bool b)), f.bnd fun b => .ret (.bool b), f⟩
def varV (i : Nat) : Cm DV := fun ρ k => match ρ[i]? with
  | some (some (.d x)) => some (.d x, k)
  | some (some .dk) => some (.dk, k)
  | _ => none
def varO (i : Nat) : Cm PyData := fun ρ k => match ρ[i]? with
  | some (some (.d x)) => some (x, k)
  | some (some (.own xs)) => some (.list xs, k)
  | _ => none
/-- arguments: each as it is handed on -/
def argsL : List Sm → Cm (List DV)
  | [] => .ret []
  | a :: r => a.v.bnd fun x => (argsL r).bnd fun xs => .ret (x.fz :: xs)
def datsL : List Sm → Cm (List PyData)
  | [] => .ret []
  | a :: r => a.v.bnd fun x => (Cm.lift x.dat).bnd fun d => (datsL r).bnd fun ds => .ret (d :: ds)
def opdsL : List Sm → Cm (List PyData)
  | [] => .ret []
  | a :: r => a.o.bnd fun x => (opdsL r).bnd fun xs => .ret (x :: xs)
def bopV (isAnd : Bool) : List Sm → Cm DV
  | [] => fun _ _ => none
  | [a] => a.v.bnd fun x => .ret x.fz
  | a :: r => a.v.bnd fun x => (Cm.lift (x.dat.bind truthD)).bnd fun b => if b == isAnd then bopV isAnd r else .ret x.fz
def bopT (isAnd : Bool) : List Sm → Cm Bool
  | [] => fun _ _ => none
  | [a] => a.t
  | a :: r => a.t.bnd fun b => if b == isAnd then bopT isAnd r else .ret b

/-- what a def's text stands in: the calls, the module's constants, the most turns of a while -/
structure Ctx where
  cl : Nat → List DV → OD → Option (DV × OD)
  gl : List PyData
  kw : List (List Nat)
  wf : Nat
def permL {α : Type} (pm : List Nat) (xs : List α) : List α := pm.filterMap fun i => xs[i]?
def callM (C : Ctx) (f : Nat) (xs : List DV) : Cm DV := fun _ k => C.cl f xs k
def keyOk : PyData → Option Unit
  | .int _ => some ()
  | .str _ => some ()
  | _ => none
def dkOf (f : Dk → Option (α × Dk)) (i : Nat) : Cm α := fun ρ k => match ρ[i]?, k with
  | some (some .dk), some q => match f q with
    | none => none
    | some (a, q') => some (a, some q')
  | _, _ => none
def popDk (q : Dk) : Option (DV × Dk) := match q.cells.getLast? with
  | none => none
  | some c => some (.d (.int c), { q with cells := q.cells.dropLast })

mutual
def evA (C : Ctx) : E → Sm
  | .var i => ⟨varV i, varO i, (varO i).bnd fun x => .lift (truthD x)⟩
  | .non => smV (.ret (.d .none))
  | .bl b => smV (.ret (.d (.bool b)))
  | .int i => smV (.ret (.d (.int i)))
  | .str x => smV (.ret (.d (.str x)))
  | .glb n => smV (.lift (C.gl[n]?.map .d))
  | .tup es => smV ((datsL (evAs C es)).bnd fun xs => .ret (.d (.tuple xs)))
  | .lst es => smV ((datsL (evAs C es)).bnd fun xs => .ret (.own xs))
  | .bin op a b => smV ((evA C a).o.bnd fun x => (evA C b).o.bnd fun y => .lift (binD op x y))
  | .neg a => smV ((evA C a).o.bnd fun x => .lift ((intD x).map fun i => .d (.int (-i))))
  | .cmp op a b => smB ((evA C a).o.bnd fun x => (evA C b).o.bnd fun y => .lift (cmpD op x y))
  | .chain o1 o2 a b c => smB ((evA C a).o.bnd fun x => (evA C b).o.bnd fun y => (Cm.lift (cmpD o1 x y)).bnd fun r =>
      if r then (evA C c).o.bnd fun z => .lift (cmpD o2 y z) else .ret false)
  | .isN a => smB ((evA C a).o.bnd fun x => .ret (isNone x))
  | .notN a => smB ((evA C a).o.bnd fun x => .ret (!isNone x))
  | .not a => { smB ((evA C a).o.bnd fun x => (Cm.lift (truthD x)).bnd fun b => .ret (!b)) with t := (evA C a).t.bnd fun b => .ret (!b) }
  | .bop isAnd es => { smV (bopV isAnd (evAs C es)) with t := bopT isAnd (evAs C es) }
  | .ife t a b => { smV ((evA C t).t.bnd fun c => if c then (evA C a).v else (evA C b).v) with t := fun _ _ => none }
  | .idx a i => smV ((evA C a).o.bnd fun x => (evA C i).o.bnd fun y => .lift ((idxD x y).map .d))
  | .slA a lo => smV ((evA C a).o.bnd fun x => (evA C lo).o.bnd fun y => .lift ((intD y).bind fun i => slD x (some i) none))
  | .slB a hi => smV ((evA C a).o.bnd fun x => (evA C hi).o.bnd fun y => .lift ((intD y).bind fun i => slD x none (some i)))
  | .slAB a lo hi => smV ((evA C a).o.bnd fun x => (evA C lo).o.bnd fun y => (Cm.lift (intD y)).bnd fun i => (evA C hi).o.bnd fun z => .lift ((intD z).bind fun j => slD x (some i) (some j)))
  | .rev a => smV ((evA C a).o.bnd fun x => .lift (match x with | .list xs => some (.own xs.reverse) | _ => none))
  | .call f es => smV ((argsL (evAs C es)).bnd fun xs => callM C f xs)
  | .callk f kn ks => smV ((argsL (evAs C ks)).bnd fun ys => (Cm.lift (C.kw[kn]?)).bnd fun pm => callM C f (permL pm ys))
  | .blt b es => smV ((opdsL (evAs C es)).bnd fun xs => .lift (bltD b xs))
  | .isi a ts => smB ((evA C a).o.bnd fun x => .ret (ts.any (isTy x)))
  | .comp elt tg src => smV ((evA C src).src.bnd fun xs => (compL tg (evA C elt).v (.ret true) xs).bnd fun ys => .ret (.own ys))
  | .compIf elt tg src c => smV ((evA C src).src.bnd fun xs => (compL tg (evA C elt).v (evA C c).t xs).bnd fun ys => .ret (.own ys))
  | .dict0 => smV (.ret (.d (.dict [])))
  | .dict1 a b => smV ((evA C a).o.bnd fun x => (Cm.lift (keyOk x)).bnd fun _ => (evA C b).v.bnd fun y => .lift (y.dat.map fun d => .d (.dict [(x, d)])))
  | .rng1 a => smV ((evA C a).o.bnd fun x => .lift ((intD x).bind fun n => if rngOk n && decide (n ≤ 100000) then some (.d (.list (rngL 0 n.toNat))) else none))
  | .rng2 a b => smV ((evA C a).o.bnd fun x => (evA C b).o.bnd fun y => .lift ((intD x).bind fun m => (intD y).bind fun n => if rngOk m && rngOk n && decide (n - m ≤ 100000) then some (.d (.list (rngL m (n - m).toNat))) else none))
  | .zip s a b => smV ((datsL [evA C a, evA C b]).bnd fun ds => .lift (zipD s ds))
  | .enum a => smV ((datsL [evA C a]).bnd fun ds => .lift (enumD ds))
  | .join a b => smV ((evA C a).o.bnd fun x => (evA C b).o.bnd fun y => .lift (match x, y with
      | .str s, .list ds => (strsD ds).bind fun ys => if (ys.map (·.length)).sum + ys.length * s.length ≤ 16777216 then some (.d (.str (Txt.join s ys))) else none
      | _, _ => none))
  | .split a b => smV ((evA C a).o.bnd fun x => (evA C b).o.bnd fun y => .lift (match x, y with
      | .str s, .str z => if (z.length == 0) = false ∧ s.length + 2 ≤ sizeLine then some (.own ((Txt.split s z).map .str)) else none
      | _, _ => none))
  | .dkTot i => smV (dkOf (fun q => some (.d (.int q.tot), q)) i)
  | .dkCnt i => smV (dkOf (fun q => some (.d (.int q.cnt), q)) i)
  | .dkNE i => smB (dkOf (fun q => some (!q.cells.isEmpty, q)) i)
  | .dkPop i => smV (dkOf popDk i)
def evAs (C : Ctx) : Es → List Sm
  | .nil => []
  | .cons e es => evA C e :: evAs C es
end

/-! ### statements -/
def setAll : List Nat → List DV → Env → Option Env
  | [], [], ρ => some ρ
  | i :: is, x :: xs, ρ => setAll is xs (ρ.set i (some x))
  | _, _, _ => none
def valsL : List Sm → Cm (List DV)
  | [] => .ret []
  | a :: r => a.v.bnd fun x => (valsL r).bnd fun xs => .ret (x :: xs)
mutual
def evS (C : Ctx) : S → Cs
  | .set i e => fun ρ k => match (evA C e).v ρ k with
    | none => none
    | some (x, k1) => some (.nx (ρ.set i (some x)), k1)
  | .setLc i e => fun ρ k => match (evA C e).v ρ k with
    | none => none
    | some (x, k1) => some (.nx (ρ.set i (some x)), k1)
  | .par is es => fun ρ k => match valsL (evAs C es) ρ k with
    | none => none
    | some (xs, k1) => match setAll is xs ρ with
      | none => none
      | some ρ' => some (.nx ρ', k1)
  | .unp is e => fun ρ k => match (evA C e).v ρ k with
    | some (.d (.tuple xs), k1) => match setMany is xs ρ with
      | none => none
      | some ρ' => some (.nx ρ', k1)
    | _ => none
  | .aug i op e => fun ρ k => match varO i ρ k with
    | some (x, _) => match (evA C e).o ρ k with
      | some (y, k1) => match binD op x y with
        | some (.d (.int z)) => some (.nx (ρ.set i (some (.d (.int z)))), k1)
        | _ => none
      | none => none
    | none => none
  | .ite t a b => fun ρ k => match (evA C t).t ρ k with
    | none => none
    | some (true, k1) => evSs C a ρ k1
    | some (false, k1) => evSs C b ρ k1
  | .loop tg src b => fun ρ k => match (evA C src).src ρ k with
    | none => none
    | some (xs, k1) => forL tg (evSs C b) xs ρ k1
  | .whil t b => whileL (evA C t).t (evSs C b) C.wf
  | .ret e => fun ρ k => match e with
    | .var i => match ρ[i]? with
      | some (some x) => some (.rt x, k)
      | _ => none
    | e => match (evA C e).v ρ k with
      | none => none
      | some (x, k1) => some (.rt x, k1)
  | .retN => fun _ k => some (.rt (.d .none), k)
  | .retDk a b c => fun ρ k => match (evA C a).v ρ k with
    | some (.own xs, none) => match intsD xs, (evA C b).v ρ none, (evA C c).v ρ none with
      | some ns, some (.d (.int t), none), some (.d (.int n), none) => some (.rt .dk, some ⟨ns, t, n⟩)
      | _, _, _ => none
    | _ => none
  | .app i e => fun ρ k => match (evA C e).v ρ k with
    | none => none
    | some (x, k1) => match x.dat, ρ[i]? with
      | some d, some (some (.own xs)) => if xs.length < sizeLine then some (.nx (ρ.set i (some (.own (xs ++ [d])))), k1) else none
      | _, _ => none
  | .popAt j i e => fun ρ k => match (evA C e).o ρ k with
    | some (.int n, k1) => match ρ[i]? with
      | some (some (.own xs)) => if 0 ≤ n ∧ n < xs.length ∧ n < 1000000 ∧ i ≠ j then match xs[n.toNat]? with
          | some y => some (.nx ((ρ.set i (some (.own (xs.eraseIdx n.toNat)))).set j (some (.d y))), k1)
          | none => none
        else none
      | _ => none
    | _ => none
  | .frz i => fun ρ k => match ρ[i]? with
    | some (some (.own xs)) => some (.nx (ρ.set i (some (.d (.list xs)))), k)
    | some (some (.d x)) => some (.nx ρ, k)
    | _ => none
  | .dkSet i e => fun ρ k => match (evA C e).o ρ k with
    | some (.int n, some q) => match ρ[i]? with
      | some (some .dk) => some (.nx ρ, some { q with cnt := n })
      | _ => none
    | _ => none
  | .dkPush i e => fun ρ k => match (evA C e).o ρ k with
    | some (.int n, some q) => match ρ[i]? with
      | some (some .dk) => if q.cells.length < sizeLine then some (.nx ρ, some { q with cells := q.cells ++ [n] }) else none
      | _ => none
    | _ => none
  | .brk => fun ρ k => some (.bk ρ, k)
  | .cont => fun ρ k => some (.ct ρ, k)
def evSs (C : Ctx) : Ss → Cs
  | .nil => fun ρ k => some (.nx ρ, k)
  | .cons s ss => fun ρ k => match evS C s ρ k with
    | some (.nx ρ', k1) => evSs C ss ρ' k1
    | r => r
end

/-! ### defs -/
structure FD where
  body : Ss
  np : Nat
  nn : Nat
def begin (d : FD) (xs : List DV) : Env := xs.map some ++ List.replicate (d.nn - xs.length) none
def endOf : Option (Fl × OD) → Option (DV × OD)
  | some (.rt v, k) => some (v, k)
  | some (.nx _, k) => some (.d .none, k)
  | _ => none
structure Prog where
  defs : List FD
  gl : List PyData
  kws : List (List Nat)
  wf : Nat
def callD (P : Prog) : Nat → Nat → List DV → OD → Option (DV × OD)
  | 0, _, _, _ => none
  | n + 1, f, xs, k => match P.defs[f]? with
    | none => none
    | some d => if xs.length = d.np then endOf (evSs ⟨callD P n, P.gl, P.kws, P.wf⟩ d.body (begin d xs) k) else none
end TA

set_option maxHeartbeats 2000000
/-! How data lie in the heap, and what the small language's state says of it. -/
namespace TA
open PySem PySem.Spec PyProof.Rows L2

def keyD : L2.Key → PyData
  | .inl i => .int i
  | .inr x => .str x
mutual
inductive Rd (K : PySem.W.Frag) (G : Hp) : V → PyData → Prop
  | non : Rd K G .non .none
  | bl (b : Bool) : Rd K G (.bl b) (.bool b)
  | int (i : Int) : Rd K G (.int i) (.int i)
  | str (x : Str) : Rd K G (.str x) (.str x)
  | lst {a : Addr} {vs : List V} {ds : List PyData} : L2.Rd G a (.lst vs) → RdA K G vs ds → Rd K G (.ref a) (.list ds)
  | tup {a : Addr} {vs : List V} {ds : List PyData} : SqT K G a vs → RdA K G vs ds → Rd K G (.ref a) (.tuple ds)
  | dic {a : Addr} {kvs : List (L2.Key × V)} {es : List (PyData × PyData)} : G a = some (.dK kvs) → RdK K G kvs es → Rd K G (.ref a) (.dict es)
inductive RdA (K : PySem.W.Frag) (G : Hp) : List V → List PyData → Prop
  | nil : RdA K G [] []
  | cons {v : V} {vs : List V} {d : PyData} {ds : List PyData} : Rd K G v d → RdA K G vs ds → RdA K G (v :: vs) (d :: ds)
inductive RdK (K : PySem.W.Frag) (G : Hp) : List (L2.Key × V) → List (PyData × PyData) → Prop
  | nil : RdK K G [] []
  | cons {k : L2.Key} {v : V} {kvs : List (L2.Key × V)} {d : PyData} {es : List (PyData × PyData)} : Rd K G v d → RdK K G kvs es → RdK K G ((k, v) :: kvs) ((keyD k, d) :: es)
end

theorem same_rd {H H' : Hp} {a : Addr} {u : HO} (e : Same H H') (h : L2.Rd H a u) : L2.Rd H' a u := by
  rcases h with h | ⟨o, h⟩
  · exact .inl (e _ _ h)
  · exact .inr ⟨o, e _ _ h⟩
theorem same_sqt {K : PySem.W.Frag} {H H' : Hp} {a : Addr} {xs : List V} (e : Same H H') (h : SqT K H a xs) : SqT K H' a xs := by
  rcases h with (h | ⟨o, h⟩) | h
  · exact .inl (.inl (e _ _ h))
  · exact .inl (.inr ⟨o, e _ _ h⟩)
  · exact .inr h

section
variable {K : PySem.W.Frag} {G G' : Hp}
mutual
theorem Rd.mono (s : Same G G') : ∀ (d : PyData) (v : V), Rd K G v d → Rd K G' v d
  | .none, _, h => by cases h; exact .non
  | .bool _, _, h => by cases h; exact .bl _
  | .int _, _, h => by cases h; exact .int _
  | .str _, _, h => by cases h; exact .str _
  | .list ds, _, h => by cases h with | lst q r => exact .lst (same_rd s q) (RdA.mono s ds _ r)
  | .tuple ds, _, h => by cases h with | tup q r => exact .tup (same_sqt s q) (RdA.mono s ds _ r)
  | .dict es, _, h => by cases h with | dic q r => exact .dic (s _ _ q) (RdK.mono s es _ r)
theorem RdA.mono (s : Same G G') : ∀ (ds : List PyData) (vs : List V), RdA K G vs ds → RdA K G' vs ds
  | [], _, h => by cases h; exact .nil
  | d :: ds, _, h => by cases h with | cons q r => exact .cons (Rd.mono s d _ q) (RdA.mono s ds _ r)
theorem RdK.mono (s : Same G G') : ∀ (es : List (PyData × PyData)) (kvs : List (L2.Key × V)), RdK K G kvs es → RdK K G' kvs es
  | [], _, h => by cases h; exact .nil
  | (a, d) :: es, _, h => by cases h with | cons q r => exact .cons (Rd.mono s d _ q) (RdK.mono s es _ r)
end
theorem RdA.length : ∀ {vs : List V} {ds : List PyData}, RdA K G vs ds → vs.length = ds.length
  | _, _, .nil => rfl
  | _, _, .cons _ r => by rw [List.length_cons, List.length_cons, r.length]
theorem RdA.get : ∀ {vs : List V} {ds : List PyData} {i : Nat} {d : PyData}, RdA K G vs ds → ds[i]? = some d → ∃ v, vs[i]? = some v ∧ Rd K G v d
  | _, _, _, _, .nil, e => by simp at e
  | _, _, 0, _, .cons q _, e => by simp at e; subst e; exact ⟨_, rfl, q⟩
  | _, _, i + 1, d, .cons _ r, e => by
    obtain ⟨v, h1, h2⟩ := RdA.get (i := i) (d := d) r (by simpa using e)
    exact ⟨v, by simpa using h1, h2⟩
theorem RdA.get' {vs : List V} {ds : List PyData} {i : Nat} {v : V} (r : RdA K G vs ds) (e : vs[i]? = some v) : ∃ d, ds[i]? = some d ∧ Rd K G v d := by
  have hi : i < ds.length := by
    have := (List.getElem?_eq_some_iff.mp e).1
    rw [r.length] at this; exact this
  obtain ⟨v', h1, h2⟩ := r.get (List.getElem?_eq_getElem hi)
  rw [e] at h1; cases h1
  exact ⟨_, List.getElem?_eq_getElem hi, h2⟩
theorem RdA.append : ∀ {vs ws : List V} {ds es : List PyData}, RdA K G vs ds → RdA K G ws es → RdA K G (vs ++ ws) (ds ++ es)
  | _, _, _, _, .nil, s => s
  | _, _, _, _, .cons q r, s => .cons q (r.append s)
theorem RdA.take : ∀ {vs : List V} {ds : List PyData} (n : Nat), RdA K G vs ds → RdA K G (vs.take n) (ds.take n)
  | _, _, 0, _ => by simpa using RdA.nil
  | _, _, _ + 1, .nil => by simpa using RdA.nil
  | _, _, n + 1, .cons q r => by simpa using RdA.cons q (r.take n)
theorem RdA.drop : ∀ {vs : List V} {ds : List PyData} (n : Nat), RdA K G vs ds → RdA K G (vs.drop n) (ds.drop n)
  | _, _, 0, r => by simpa using r
  | _, _, _ + 1, .nil => by simpa using RdA.nil
  | _, _, n + 1, .cons q r => by simpa using r.drop n
theorem RdA.rev : ∀ {vs : List V} {ds : List PyData}, RdA K G vs ds → RdA K G vs.reverse ds.reverse
  | _, _, .nil => by simpa using RdA.nil
  | _, _, .cons q r => by
    rw [List.reverse_cons, List.reverse_cons]
    exact r.rev.append (.cons q .nil)
theorem RdA.rep {vs : List V} {ds : List PyData} (r : RdA K G vs ds) : ∀ n : Nat, RdA K G (List.replicate n vs).flatten (List.replicate n ds).flatten
  | 0 => by simpa using RdA.nil
  | n + 1 => by
    rw [List.replicate_succ, List.replicate_succ, List.flatten_cons, List.flatten_cons]
    exact r.append (r.rep n)
theorem RdA.erase : ∀ {vs : List V} {ds : List PyData} (n : Nat), RdA K G vs ds → RdA K G (vs.eraseIdx n) (ds.eraseIdx n)
  | _, _, _, .nil => by simpa using RdA.nil
  | _, _, 0, .cons q r => by simpa using r
  | _, _, n + 1, .cons q r => by simpa using RdA.cons q (r.erase n)
theorem RdA.cut {vs : List V} {ds : List PyData} (lo hi : Option Int) (r : RdA K G vs ds) : RdA K G (cutV vs lo hi) (cutL ds lo hi) := by
  unfold cutV cutL
  rw [r.length]
  exact (r.drop _).take _
theorem RdA.ints : ∀ {vs : List V} {ds : List PyData} {ns : List Int}, RdA K G vs ds → intsD ds = some ns → vs = ns.map V.int
  | _, _, _, .nil, e => by simp [intsD] at e; subst e; rfl
  | _, _, _, .cons (d := d) q r, e => by
    cases d with
    | int b =>
      unfold intsD at e
      split at e
      · rename_i bs hb
        cases e
        cases q
        rw [RdA.ints r hb]; rfl
      · cases e
    | _ => simp [intsD] at e
theorem RdA.bools : ∀ {vs : List V} {ds : List PyData} {ns : List Bool}, RdA K G vs ds → boolsD ds = some ns → vs = ns.map V.bl
  | _, _, _, .nil, e => by simp [boolsD] at e; subst e; rfl
  | _, _, _, .cons (d := d) q r, e => by
    cases d with
    | bool b =>
      unfold boolsD at e
      split at e
      · rename_i bs hb
        cases e
        cases q
        rw [RdA.bools r hb]; rfl
      · cases e
    | _ => simp [boolsD] at e
theorem RdA.strs : ∀ {vs : List V} {ds : List PyData} {ns : List Str}, RdA K G vs ds → strsD ds = some ns → vs = ns.map V.str
  | _, _, _, .nil, e => by simp [strsD] at e; subst e; rfl
  | _, _, _, .cons (d := d) q r, e => by
    cases d with
    | str b =>
      unfold strsD at e
      split at e
      · rename_i bs hb
        cases e
        cases q
        rw [RdA.strs r hb]; rfl
      · cases e
    | _ => simp [strsD] at e
theorem RdA.ofStrs : ∀ ys : List Str, RdA K G (ys.map V.str) (ys.map PyData.str)
  | [] => .nil
  | y :: ys => .cons (.str y) (RdA.ofStrs ys)
end

/-! ### the state -/
/-- a frame's entry: what was frozen, what was tracked -/
structure Fm where
  G0 : Hp
  H0 : Hp
  d0 : Option (Addr × Addr)
/-- the ghost: what is frozen now, where the deck lies -/
structure Gh where
  G : Hp
  dA : Option (Addr × Addr)
def NotDk (dA : Option (Addr × Addr)) (p : Addr) : Prop := ∀ a c, dA = some (a, c) → p ≠ a ∧ p ≠ c
def OwnAt (K : PySem.W.Frag) (F : Fm) (g : Gh) (H : Hp) (v : V) (xs : List PyData) : Prop :=
  ∃ p vs, v = .ref p ∧ H p = some (.lst vs) ∧ g.G p = none ∧ RdA K g.G vs xs ∧ NotDk g.dA p ∧ F.H0 p = none
def SR (K : PySem.W.Frag) (F : Fm) (g : Gh) (H : Hp) (v : V) : DV → Prop
  | .d x => Rd K g.G v x
  | .own xs => OwnAt K F g H v xs
  | .dk => ∃ a c, g.dA = some (a, c) ∧ v = .ref a
def DkAt (H G : Hp) (a c : Addr) (q : Dk) : Prop :=
  a ≠ c ∧ G a = none ∧ G c = none ∧ H a = some (.lst [.ref c, .int q.tot, .int q.cnt]) ∧ H c = some (.lst (q.cells.map V.int))
def DkRel (g : Gh) (H : Hp) (k : OD) : Prop := match g.dA, k with
  | none, none => True
  | some (a, c), some q => DkAt H g.G a c q
  | _, _ => False
structure Rel (K : PySem.W.Frag) (F : Fm) (g : Gh) (H : Hp) (σ : L2.St) (ρ : Env) (k : OD) : Prop where
  sub : Same g.G H
  sub0 : Same F.G0 g.G
  new : ∀ b o, g.G b = some o → F.G0 b = some o ∨ F.H0 b = none
  keep : ∀ b o, F.H0 b = some o → NotDk g.dA b → H b = some o
  dom : ∀ b, H b = none → F.H0 b = none
  slot : ∀ (i : Nat) x, ρ[i]? = some (some x) → ∃ v, σ[i]? = some (some v) ∧ SR K F g H v x
  dist : ∀ (i j : Nat) xs ys v, i ≠ j → ρ[i]? = some (some (.own xs)) → ρ[j]? = some (some (.own ys)) → σ[i]? = some (some v) → σ[j]? ≠ some (some v)
  deck : DkRel g H k
  len : ρ.length = σ.length
  dk0 : g.dA = F.d0 ∨ (F.d0 = none ∧ ∃ a c, g.dA = some (a, c) ∧ F.H0 a = none ∧ F.H0 c = none)
/-- what comes: more is frozen, the deck may have come into being -/
structure Nxt (K : PySem.W.Frag) (F : Fm) (g : Gh) (H : Hp) (g' : Gh) (H' : Hp) (σ : L2.St) (ρ : Env) (k' : OD) : Prop where
  rel : Rel K F g' H' σ ρ k'
  sub : Same g.G g'.G
  dle : g'.dA = g.dA ∨ (g.dA = none ∧ ∃ a c, g'.dA = some (a, c) ∧ H a = none ∧ H c = none)
  dm : ∀ b, H' b = none → H b = none
  kp : ∀ b o, H b = some o → NotDk g'.dA b → H' b = some o
  nf : ∀ b o, g'.G b = some o → g.G b = some o ∨ H b = none
/-- a value that has come since the heap was Hs: data, a new list of nobody's, the deck -/
def VR (K : PySem.W.Frag) (Hs : Hp) (g : Gh) (H : Hp) (v : V) : DV → Prop
  | .own xs => ∃ p vs, v = .ref p ∧ H p = some (.lst vs) ∧ g.G p = none ∧ RdA K g.G vs xs ∧ NotDk g.dA p ∧ Hs p = none
  | .d x => Rd K g.G v x
  | .dk => ∃ a c, g.dA = some (a, c) ∧ v = .ref a
/-- an operand: frozen data, or a list that a slot owns -/
def OpRd (K : PySem.W.Frag) (g : Gh) (σ : L2.St) (ρ : Env) (v : V) (d : PyData) : Prop :=
  Rd K g.G v d ∨ ∃ (i : Nat) (xs : List PyData), σ[i]? = some (some v) ∧ ρ[i]? = some (some (.own xs)) ∧ d = .list xs

section
variable {K : PySem.W.Frag} {F : Fm} {g g' g'' : Gh} {H H' H'' : Hp} {σ : L2.St} {ρ : Env} {k k' k'' : OD} {v : V} {d : PyData} {r : DV}
theorem Nxt.refl (h : Rel K F g H σ ρ k) : Nxt K F g H g H σ ρ k := ⟨h, Same.refl _, .inl rfl, fun _ e => e, fun _ _ e _ => e, fun _ _ e => .inl e⟩
theorem Nxt.trans (a : Nxt K F g H g' H' σ ρ k) (b : Nxt K F g' H' g'' H'' σ ρ k') : Nxt K F g H g'' H'' σ ρ k' := by
  refine ⟨b.rel, a.sub.trans b.sub, ?_, fun x e => a.dm x (b.dm x e), fun x o e nd => b.kp x o (a.kp x o e ?_) nd, fun x o e => ?_⟩
  rotate_left
  · rcases b.dle with z | ⟨z, _⟩
    · rw [← z]; exact nd
    · rw [z]; exact fun _ _ w => nomatch w
  · rcases b.nf x o e with z | z
    · exact a.nf x o z
    · exact .inr (a.dm x z)
  rcases b.dle with e | ⟨e, x, y, h1, h2, h3⟩
  · rcases a.dle with q | ⟨q, x, y, h1, h2, h3⟩
    · exact .inl (e.trans q)
    · exact .inr ⟨q, x, y, e.trans h1, h2, h3⟩
  · rcases a.dle with q | ⟨q, x', y', h1', _⟩
    · exact .inr ⟨q.symm.trans e, x, y, h1, a.dm _ h2, a.dm _ h3⟩
    · rw [h1'] at e; cases e
theorem OpRd.mono (h : OpRd K g σ ρ v d) (s : Same g.G g'.G) : OpRd K g' σ ρ v d := by
  rcases h with h | h
  · exact .inl (h.mono s)
  · exact .inr h
theorem OpRd.nxt (h : OpRd K g σ ρ v d) (n : Nxt K F g H g' H' σ ρ k) : OpRd K g' σ ρ v d := h.mono n.sub
/-- what an operand is: by its kind -/
theorem OpRd.list {xs : List PyData} (h : OpRd K g σ ρ v (.list xs)) (R : Rel K F g H σ ρ k) : ∃ a vs, v = .ref a ∧ L2.Rd H a (.lst vs) ∧ RdA K g.G vs xs := by
  rcases h with h | ⟨i, ys, h1, h2, h3⟩
  · cases h with
    | lst q r => exact ⟨_, _, rfl, same_rd R.sub q, r⟩
  · cases h3
    obtain ⟨v', e, p, vs, rfl, hp, _, ra, _⟩ := R.slot i _ h2
    rw [h1] at e; cases e
    exact ⟨p, vs, rfl, .inl hp, ra⟩
theorem OpRd.tuple {xs : List PyData} (h : OpRd K g σ ρ v (.tuple xs)) (R : Rel K F g H σ ρ k) : ∃ a vs, v = .ref a ∧ SqT K H a vs ∧ RdA K g.G vs xs := by
  rcases h with h | ⟨i, ys, h1, h2, h3⟩
  · cases h with
    | tup q r => exact ⟨_, _, rfl, same_sqt R.sub q, r⟩
  · cases h3
theorem OpRd.int {i : Int} (h : OpRd K g σ ρ v (.int i)) : v = .int i := by
  rcases h with h | ⟨_, _, _, _, h3⟩
  · cases h; rfl
  · cases h3
theorem OpRd.str {x : Str} (h : OpRd K g σ ρ v (.str x)) : v = .str x := by
  rcases h with h | ⟨_, _, _, _, h3⟩
  · cases h; rfl
  · cases h3
theorem OpRd.bool {b : Bool} (h : OpRd K g σ ρ v (.bool b)) : v = .bl b := by
  rcases h with h | ⟨_, _, _, _, h3⟩
  · cases h; rfl
  · cases h3
theorem OpRd.none (h : OpRd K g σ ρ v .none) : v = .non := by
  rcases h with h | ⟨_, _, _, _, h3⟩
  · cases h; rfl
  · cases h3
theorem OpRd.dict {es : List (PyData × PyData)} (h : OpRd K g σ ρ v (.dict es)) (R : Rel K F g H σ ρ k) : ∃ a kvs, v = .ref a ∧ H a = some (.dK kvs) ∧ RdK K g.G kvs es := by
  rcases h with h | ⟨_, _, _, _, h3⟩
  · cases h with
    | dic q r => exact ⟨_, _, rfl, R.sub _ _ q, r⟩
  · cases h3
/-- read in the whole heap -/
theorem OpRd.whole (h : OpRd K g σ ρ v d) (R : Rel K F g H σ ρ k) : Rd K H v d := by
  rcases h with h | ⟨i, ys, h1, h2, rfl⟩
  · exact h.mono R.sub
  · obtain ⟨v', e, p, vs, rfl, hp, _, ra, _⟩ := R.slot i _ h2
    rw [h1] at e; cases e
    exact .lst (.inl hp) (ra.mono R.sub)

theorem NotDk.of {p : Addr} (R : Rel K F g H σ ρ k) (h : H p = none) : NotDk g.dA p := by
  intro a c e
  have q := R.deck
  unfold DkRel at q
  rw [e] at q
  cases k with
  | none => exact q.elim
  | some z =>
    obtain ⟨_, _, _, h1, h2⟩ : DkAt H g.G a c z := q
    constructor
    · rintro rfl; rw [h] at h1; cases h1
    · rintro rfl; rw [h] at h2; cases h2
theorem upd_same' {p : Addr} {o : HO} {G : Hp} (hG : G p = none) : Same G (upd G p o) := fun b u e => by
  rw [upd_ne (ne_of_none e hG)]; exact e
theorem Rel.free (R : Rel K F g H σ ρ k) {p : Addr} (h : H p = none) : g.G p = none := by
  cases e : g.G p with
  | none => rfl
  | some o => rw [R.sub _ _ e] at h; cases h
theorem sameUpd {p : Addr} {o : HO} {G H : Hp} (s : Same G H) : Same (upd G p o) (upd H p o) := fun b u e => by
  by_cases q : b = p
  · subst q; rw [upd_same] at e ⊢; exact e
  · rw [upd_ne q] at e ⊢; exact s _ _ e
/-- a new object that is frozen at once -/
theorem Rel.layF (R : Rel K F g H σ ρ k) {p : Addr} {o : HO} (hp : H p = none) : Nxt K F g H { g with G := upd g.G p o } (upd H p o) σ ρ k := by
  have hG := R.free hp
  have hne : ∀ {b : Addr} {u : HO}, H b = some u → b ≠ p := fun e => ne_of_none e hp
  refine ⟨⟨sameUpd R.sub, R.sub0.trans (upd_same' hG), fun b u e => ?_, fun b u e nd => ?_, fun b e => ?_, fun i x e => ?_, R.dist, ?_, R.len, R.dk0⟩, upd_same' hG, .inl rfl, fun b e => ?_, fun b u e _ => by rw [upd_ne (hne e)]; exact e, fun b u e => ?_⟩
  · by_cases q : b = p
    · subst q; exact .inr (R.dom _ hp)
    · exact R.new b u (by simpa [upd_ne q] using e)
  · have := R.keep b u e nd
    rw [upd_ne (hne this)]; exact this
  · by_cases q : b = p
    · subst q; rw [upd_same] at e; cases e
    · exact R.dom b (by rw [upd_ne q] at e; exact e)
  · obtain ⟨v, h1, h2⟩ := R.slot i x e
    refine ⟨v, h1, ?_⟩
    cases x with
    | d y => exact (show Rd K g.G v y from h2).mono (upd_same' hG)
    | own xs =>
      obtain ⟨q, vs, rfl, h3, h4, h5, h6, h7⟩ := h2
      refine ⟨q, vs, rfl, by rw [upd_ne (hne h3)]; exact h3, ?_, h5.mono (upd_same' hG), h6, h7⟩
      show upd g.G p o q = none
      rw [upd_ne (hne h3)]; exact h4
    | dk => exact h2
  · have q := R.deck
    unfold DkRel at q ⊢
    cases ed : g.dA with
    | none =>
      rw [ed] at q
      cases k with
      | none => trivial
      | some z => exact q.elim
    | some ac =>
      obtain ⟨a, c⟩ := ac
      rw [ed] at q
      cases k with
      | none => exact q
      | some z =>
        obtain ⟨h1, h2, h3, h4, h5⟩ : DkAt H g.G a c z := q
        refine ⟨h1, ?_, ?_, ?_, ?_⟩
        · show upd g.G p o a = none; rw [upd_ne (hne h4)]; exact h2
        · show upd g.G p o c = none; rw [upd_ne (hne h5)]; exact h3
        · rw [upd_ne (hne h4)]; exact h4
        · rw [upd_ne (hne h5)]; exact h5
  · by_cases q : b = p
    · subst q; rw [upd_same] at e; cases e
    · rw [upd_ne q] at e; exact e
  · by_cases q : b = p
    · subst q; exact .inr hp
    · exact .inl (by simpa [upd_ne q] using e)
/-- a new object that is not frozen (a list that is owned, or a thing that is dropped) -/
theorem Rel.layO (R : Rel K F g H σ ρ k) {p : Addr} {o : HO} (hp : H p = none) : Nxt K F g H g (upd H p o) σ ρ k := by
  have hne : ∀ {b : Addr} {u : HO}, H b = some u → b ≠ p := fun e => ne_of_none e hp
  refine ⟨⟨fun b u e => by rw [upd_ne (hne (R.sub _ _ e))]; exact R.sub _ _ e, R.sub0, R.new, fun b u e nd => ?_, fun b e => ?_, fun i x e => ?_, R.dist, ?_, R.len, R.dk0⟩, Same.refl _, .inl rfl, fun b e => ?_, fun b u e _ => by rw [upd_ne (hne e)]; exact e, fun _ _ e => .inl e⟩
  · have := R.keep b u e nd
    rw [upd_ne (hne this)]; exact this
  · by_cases q : b = p
    · subst q; rw [upd_same] at e; cases e
    · exact R.dom b (by rw [upd_ne q] at e; exact e)
  · obtain ⟨v, h1, h2⟩ := R.slot i x e
    refine ⟨v, h1, ?_⟩
    cases x with
    | d y => exact h2
    | own xs =>
      obtain ⟨q, vs, rfl, h3, h4, h5, h6, h7⟩ := h2
      exact ⟨q, vs, rfl, by rw [upd_ne (hne h3)]; exact h3, h4, h5, h6, h7⟩
    | dk => exact h2
  · have q := R.deck
    unfold DkRel at q ⊢
    cases ed : g.dA with
    | none =>
      rw [ed] at q
      cases k with
      | none => trivial
      | some z => exact q.elim
    | some ac =>
      obtain ⟨a, c⟩ := ac
      rw [ed] at q
      cases k with
      | none => exact q
      | some z =>
        obtain ⟨h1, h2, h3, h4, h5⟩ : DkAt H g.G a c z := q
        exact ⟨h1, h2, h3, by rw [upd_ne (hne h4)]; exact h4, by rw [upd_ne (hne h5)]; exact h5⟩
  · by_cases q : b = p
    · subst q; rw [upd_same] at e; cases e
    · rw [upd_ne q] at e; exact e
/-- the new list as an owned one -/
theorem Rel.ownNew (R : Rel K F g H σ ρ k) {p : Addr} {vs : List V} {xs : List PyData} (hp : H p = none) (r : RdA K g.G vs xs) : VR K H g (upd H p (.lst vs)) (.ref p) (.own xs) :=
  ⟨p, vs, rfl, upd_same, R.free hp, r, NotDk.of R hp, hp⟩
theorem VR.of {Hs : Hp} (n : ∀ b, H b = none → Hs b = none) (h : VR K H g' H' v r) : VR K Hs g' H' v r := by
  cases r with
  | d x => exact h
  | own xs =>
    obtain ⟨p, vs, h1, h2, h3, h4, h5, h6⟩ := h
    exact ⟨p, vs, h1, h2, h3, h4, h5, n _ h6⟩
  | dk => exact h
/-- an object that has come since, that nobody holds yet, is frozen (with new content) -/
theorem Nxt.put (R : Rel K F g H σ ρ k'') (n : Nxt K F g H g' H' σ ρ k) {p : Addr} {o : HO} (hp : H p = none) (hG : g'.G p = none) (hd : NotDk g'.dA p) (hm : ∃ u, H' p = some u) :
    Nxt K F g H { g' with G := upd g'.G p o } (upd H' p o) σ ρ k := by
  have sm : Same g'.G (upd g'.G p o) := upd_same' hG
  have R' := n.rel
  have ownNe : ∀ {i : Nat} {ys : List PyData} {q : Addr}, ρ[i]? = some (some (.own ys)) → σ[i]? = some (some (.ref q)) → q ≠ p := fun {i ys q} e1 e2 => by
    rintro rfl
    obtain ⟨v, h1, q', ws, rfl, h3, _⟩ := R.slot i _ e1
    rw [e2] at h1; cases h1
    rw [hp] at h3; cases h3
  refine ⟨⟨fun b u e => ?_, R'.sub0.trans sm, fun b u e => ?_, fun b u e nd => ?_, fun b e => ?_, fun i x e => ?_, R'.dist, ?_, R'.len, R'.dk0⟩, n.sub.trans sm, n.dle, fun b e => ?_, fun b u e nd => ?_, fun b u e => ?_⟩
  · by_cases q : b = p
    · subst q
      have e' : upd g'.G b o b = some u := e
      rw [upd_same] at e' ⊢; exact e'
    · rw [upd_ne q]; exact R'.sub _ _ (by simpa [upd_ne q] using e)
  · by_cases q : b = p
    · subst q; exact .inr (R.dom _ hp)
    · exact R'.new b u (by simpa [upd_ne q] using e)
  · by_cases q : b = p
    · subst q
      rw [R.dom _ hp] at e; cases e
    · rw [upd_ne q]; exact R'.keep b u e nd
  · by_cases q : b = p
    · subst q; rw [upd_same] at e; cases e
    · exact R'.dom b (by rw [upd_ne q] at e; exact e)
  · obtain ⟨v, q1, q2⟩ := R'.slot i x e
    refine ⟨v, q1, ?_⟩
    cases x with
    | d y => exact (show Rd K g'.G v y from q2).mono sm
    | own ys =>
      obtain ⟨q, ws, rfl, q3, q4, q5, q6, q7⟩ := q2
      have qne := ownNe e q1
      refine ⟨q, ws, rfl, by rw [upd_ne qne]; exact q3, ?_, q5.mono sm, q6, q7⟩
      show upd g'.G p o q = none
      rw [upd_ne qne]; exact q4
    | dk => exact q2
  · have q := R'.deck
    unfold DkRel at q ⊢
    cases ed : g'.dA with
    | none =>
      rw [ed] at q
      cases k with
      | none => trivial
      | some z => exact q.elim
    | some ac =>
      obtain ⟨a, c⟩ := ac
      rw [ed] at q
      cases k with
      | none => exact q
      | some z =>
        obtain ⟨q1, q2, q3, q4, q5⟩ : DkAt H' g'.G a c z := q
        obtain ⟨n1, n2⟩ := hd a c ed
        refine ⟨q1, ?_, ?_, ?_, ?_⟩
        · show upd g'.G p o a = none; rw [upd_ne (Ne.symm n1)]; exact q2
        · show upd g'.G p o c = none; rw [upd_ne (Ne.symm n2)]; exact q3
        · rw [upd_ne (Ne.symm n1)]; exact q4
        · rw [upd_ne (Ne.symm n2)]; exact q5
  · by_cases q : b = p
    · subst q; exact hp
    · exact n.dm b (by rw [upd_ne q] at e; exact e)
  · rw [upd_ne (ne_of_none e hp)]; exact n.kp b u e nd
  · by_cases q : b = p
    · subst q; exact .inr hp
    · exact n.nf b u (by simpa [upd_ne q] using e)
/-- .. it stays unfrozen -/
theorem Nxt.putO (R : Rel K F g H σ ρ k'') (n : Nxt K F g H g' H' σ ρ k) {p : Addr} {o : HO} (hp : H p = none) (hG : g'.G p = none) (hd : NotDk g'.dA p) :
    Nxt K F g H g' (upd H' p o) σ ρ k := by
  have R' := n.rel
  have ownNe : ∀ {i : Nat} {ys : List PyData} {q : Addr}, ρ[i]? = some (some (.own ys)) → σ[i]? = some (some (.ref q)) → q ≠ p := fun {i ys q} e1 e2 => by
    rintro rfl
    obtain ⟨v, h1, q', ws, rfl, h3, _⟩ := R.slot i _ e1
    rw [e2] at h1; cases h1
    rw [hp] at h3; cases h3
  refine ⟨⟨fun b u e => ?_, R'.sub0, R'.new, fun b u e nd => ?_, fun b e => ?_, fun i x e => ?_, R'.dist, ?_, R'.len, R'.dk0⟩, n.sub, n.dle, fun b e => ?_, fun b u e nd => ?_, n.nf⟩
  · rw [upd_ne (ne_of_none e hG)]; exact R'.sub _ _ e
  · by_cases q : b = p
    · subst q
      rw [R.dom _ hp] at e; cases e
    · rw [upd_ne q]; exact R'.keep b u e nd
  · by_cases q : b = p
    · subst q; rw [upd_same] at e; cases e
    · exact R'.dom b (by rw [upd_ne q] at e; exact e)
  · obtain ⟨v, q1, q2⟩ := R'.slot i x e
    refine ⟨v, q1, ?_⟩
    cases x with
    | d y => exact q2
    | own ys =>
      obtain ⟨q, ws, rfl, q3, q4, q5, q6, q7⟩ := q2
      exact ⟨q, ws, rfl, by rw [upd_ne (ownNe e q1)]; exact q3, q4, q5, q6, q7⟩
    | dk => exact q2
  · have q := R'.deck
    unfold DkRel at q ⊢
    cases ed : g'.dA with
    | none =>
      rw [ed] at q
      cases k with
      | none => trivial
      | some z => exact q.elim
    | some ac =>
      obtain ⟨a, c⟩ := ac
      rw [ed] at q
      cases k with
      | none => exact q
      | some z =>
        obtain ⟨q1, q2, q3, q4, q5⟩ : DkAt H' g'.G a c z := q
        obtain ⟨n1, n2⟩ := hd a c ed
        exact ⟨q1, q2, q3, by rw [upd_ne (Ne.symm n1)]; exact q4, by rw [upd_ne (Ne.symm n2)]; exact q5⟩
  · by_cases q : b = p
    · subst q; exact hp
    · exact n.dm b (by rw [upd_ne q] at e; exact e)
  · rw [upd_ne (ne_of_none e hp)]; exact n.kp b u e nd
theorem upd_id {H : Hp} {p : Addr} {o : HO} (h : H p = some o) : upd H p o = H := by
  funext b
  by_cases q : b = p
  · subst q; rw [upd_same, h]
  · rw [upd_ne q]
/-- a value as data: frozen -/
theorem Nxt.asData (R : Rel K F g H σ ρ k'') (n : Nxt K F g H g' H' σ ρ k) (h : VR K H g' H' v r) (e : r.dat = some d) : ∃ g2, Nxt K F g H g2 H' σ ρ k ∧ Rd K g2.G v d ∧ g2.dA = g'.dA ∧ Same g'.G g2.G := by
  cases r with
  | d x => cases e; exact ⟨g', n, h, rfl, Same.refl _⟩
  | own xs =>
    cases e
    obtain ⟨p, vs, rfl, h1, h2, h3, h4, h5⟩ := h
    have n2 := Nxt.put (o := .lst vs) R n h5 h2 h4 ⟨_, h1⟩
    rw [upd_id h1] at n2
    exact ⟨_, n2, .lst (.inl upd_same) (h3.mono (upd_same' h2)), rfl, upd_same' h2⟩
  | dk => cases e
theorem Nxt.fz (R : Rel K F g H σ ρ k'') (n : Nxt K F g H g' H' σ ρ k) (h : VR K H g' H' v r) : ∃ g2, Nxt K F g H g2 H' σ ρ k ∧ VR K H g2 H' v r.fz := by
  cases r with
  | d x => exact ⟨g', n, h⟩
  | own xs =>
    obtain ⟨g2, n2, rd, _⟩ := Nxt.asData (d := .list xs) R n h rfl
    exact ⟨g2, n2, rd⟩
  | dk => exact ⟨g', n, h⟩
end
end TA

set_option maxHeartbeats 4000000
/-! The rules of the small language: expressions, by the hand layer's judgements. -/
namespace TA
open PySem PySem.Spec PyProof.Rows L2

theorem bnd_some {α β : Type} {f : Cm α} {g : α → Cm β} {ρ : Env} {k : OD} {y : β × OD} (h : f.bnd g ρ k = some y) : ∃ a k1, f ρ k = some (a, k1) ∧ g a ρ k1 = some y := by
  unfold Cm.bnd at h
  split at h
  · cases h
  · rename_i a k1 e; exact ⟨a, k1, e, h⟩
theorem lift_some {α : Type} {o : Option α} {ρ : Env} {k k' : OD} {a : α} (h : Cm.lift o ρ k = some (a, k')) : o = some a ∧ k' = k := by
  unfold Cm.lift at h
  split at h
  · cases h
  · cases h; exact ⟨rfl, rfl⟩
theorem ret_some {α : Type} {ρ : Env} {k k' : OD} {a b : α} (h : Cm.ret b ρ k = some (a, k')) : a = b ∧ k' = k := by
  unfold Cm.ret at h; cases h; exact ⟨rfl, rfl⟩

section
variable (K : PySem.W.Frag) (F : Fm)
def tV (f : Cm DV) : TE := fun σ H Q => ∃ g ρ k r k', Rel K F g H σ ρ k ∧ f ρ k = some (r, k') ∧ ∀ v g' H', Nxt K F g H g' H' σ ρ k' → VR K H g' H' v r → Q v H'
def tO (f : Cm PyData) : TE := fun σ H Q => ∃ g ρ k d k', Rel K F g H σ ρ k ∧ f ρ k = some (d, k') ∧ ∀ v g' H', Nxt K F g H g' H' σ ρ k' → OpRd K g' σ ρ v d → Q v H'
def tT (f : Cm Bool) : TT := fun σ H Q => ∃ g ρ k b k', Rel K F g H σ ρ k ∧ f ρ k = some (b, k') ∧ ∀ g' H', Nxt K F g H g' H' σ ρ k' → Q b H'
/-- several, as data; as operands; as arguments -/
def tDs (f : Cm (List PyData)) : TA := fun σ H Q => ∃ g ρ k ds k', Rel K F g H σ ρ k ∧ f ρ k = some (ds, k') ∧ ∀ vs g' H', Nxt K F g H g' H' σ ρ k' → RdA K g'.G vs ds → Q vs H'
def OpAll (g : Gh) (σ : L2.St) (ρ : Env) : List V → List PyData → Prop
  | [], [] => True
  | v :: vs, d :: ds => OpRd K g σ ρ v d ∧ OpAll g σ ρ vs ds
  | _, _ => False
def tOs (f : Cm (List PyData)) : TA := fun σ H Q => ∃ g ρ k ds k', Rel K F g H σ ρ k ∧ f ρ k = some (ds, k') ∧ ∀ vs g' H', Nxt K F g H g' H' σ ρ k' → OpAll K g' σ ρ vs ds → Q vs H'
/-- an argument: data, or the deck -/
def AR (g : Gh) (v : V) : DV → Prop
  | .d x => Rd K g.G v x
  | .dk => ∃ a c, g.dA = some (a, c) ∧ v = .ref a
  | .own _ => False
def ARs (g : Gh) : List V → List DV → Prop
  | [], [] => True
  | v :: vs, x :: xs => AR K g v x ∧ ARs g vs xs
  | _, _ => False
def tAs (f : Cm (List DV)) : TA := fun σ H Q => ∃ g ρ k xs k', Rel K F g H σ ρ k ∧ f ρ k = some (xs, k') ∧ ∀ vs g' H', Nxt K F g H g' H' σ ρ k' → ARs K g' vs xs → Q vs H'
end

theorem _root_.L2.PE.imp {X : Cx} {e : Expr} {t t' : TE} (h : PE X e t) (i : ∀ σ H Q, t' σ H Q → t σ H Q) : PE X e t' := ⟨fun pins s σ H Q I q => h.run pins s σ H Q I (i σ H Q q)⟩
theorem _root_.L2.PT.imp {X : Cx} {e : Expr} {t t' : TT} (h : PT X e t) (i : ∀ σ H Q, t' σ H Q → t σ H Q) : PT X e t' := ⟨fun pins s σ H Q I q => h.run pins s σ H Q I (i σ H Q q)⟩
theorem _root_.L2.PA.imp {X : Cx} {e : List Expr} {t t' : TA} (h : PA X e t) (i : ∀ σ H Q, t' σ H Q → t σ H Q) : PA X e t' := ⟨fun pos pins s σ H Q I q => h.run pos pins s σ H Q I (i σ H Q q)⟩
theorem _root_.L2.PW.imp {X : Cx} {e : Expr} {t t' : TT} (h : PW X e t) (i : ∀ σ H Q, t' σ H Q → t σ H Q) : PW X e t' := ⟨fun wh pins s σ H Q I q => h.run wh pins s σ H Q I (i σ H Q q)⟩

section
variable {X : Cx} {K : PySem.W.Frag} {F : Fm} {e : Expr}
theorem AR.nxt {g g' : Gh} {H H' : Hp} {σ : L2.St} {ρ : Env} {k : OD} {v : V} {x : DV} (n : Nxt K F g H g' H' σ ρ k) (h : AR K g v x) : AR K g' v x := by
  cases x with
  | d y => exact Rd.mono n.sub _ _ h
  | own _ => exact h
  | dk =>
    obtain ⟨a, c, h1, h2⟩ := h
    rcases n.dle with e | ⟨e, _⟩
    · exact ⟨a, c, e.trans h1, h2⟩
    · rw [h1] at e; cases e
theorem ARs.nxt {g g' : Gh} {H H' : Hp} {σ : L2.St} {ρ : Env} {k : OD} (n : Nxt K F g H g' H' σ ρ k) : ∀ {vs : List V} {xs : List DV}, ARs K g vs xs → ARs K g' vs xs
  | [], [], _ => trivial
  | _ :: _, _ :: _, h => ⟨AR.nxt n h.1, ARs.nxt n h.2⟩
  | [], _ :: _, h => h.elim
  | _ :: _, [], h => h.elim
theorem AR.ofVR {Hs : Hp} {g : Gh} {H : Hp} {v : V} {x : DV} (h : VR K Hs g H v x.fz) : AR K g v x.fz := by
  cases x with
  | d y => exact h
  | own _ => exact h
  | dk => exact h
theorem OpAll.nxt {g g' : Gh} {H H' : Hp} {σ : L2.St} {ρ : Env} {k : OD} (n : Nxt K F g H g' H' σ ρ k) : ∀ {vs : List V} {xs : List PyData}, OpAll K g σ ρ vs xs → OpAll K g' σ ρ vs xs
  | [], [], _ => trivial
  | _ :: _, _ :: _, h => ⟨h.1.nxt n, OpAll.nxt n h.2⟩
  | [], _ :: _, h => h.elim
  | _ :: _, [], h => h.elim

/-! ### a value as an operand, as a test -/
theorem o_of_v {f : Cm DV} (h : PE X e (tV K F f)) : PE X e (tO K F (f.bnd fun r => .lift r.dat)) := by
  refine h.imp fun σ H Q ⟨g, ρ, k, d, k', R, q, c⟩ => ?_
  obtain ⟨r, k1, q1, q2⟩ := bnd_some q
  obtain ⟨q3, rfl⟩ := lift_some q2
  refine ⟨g, ρ, k, r, k', R, q1, fun v g' H' n vr => ?_⟩
  obtain ⟨g2, n2, rd, _⟩ := n.asData R vr q3
  exact c v g2 H' n2 (.inl rd)
theorem truV {H : Hp} {v : V} {d : PyData} {b : Bool} (h : Rd K H v d) (e : truthD d = some b) : TruV K v H b := by
  cases h with
  | non => cases e; rfl
  | bl x => cases e; rfl
  | int i => cases e; rfl
  | str x =>
    simp only [truthD] at e
    split at e
    · cases e; exact ⟨by assumption, rfl⟩
    · cases e
  | lst q r =>
    cases e
    refine .inl ⟨_, .inl q, ?_⟩
    cases r <;> rfl
  | tup q r =>
    cases e
    refine .inr (.inl ⟨_, q, ?_⟩)
    cases r <;> rfl
  | dic q r =>
    cases e
    refine .inr (.inr ⟨_, q, ?_⟩)
    cases r <;> rfl
abbrev Plain (X : Cx) (e : Expr) : Prop := ∀ whole, isTrue e X.env whole = (do let v ← whole; standAt e.pos; holding [v] (truthy v))
theorem t_of_v {f : Cm DV} (hK : X.K = K) (h : PE X e (tV K F f)) (he : Plain X e) : PT X e (tT K F (f.bnd fun r => .lift (r.dat.bind truthD))) := by
  subst hK
  refine (pt_truth h he).imp fun σ H Q ⟨g, ρ, k, b, k', R, q, c⟩ => ?_
  obtain ⟨r, k1, q1, q2⟩ := bnd_some q
  obtain ⟨q3, rfl⟩ := lift_some q2
  refine ⟨g, ρ, k, r, k', R, q1, fun v g' H' n vr => ?_⟩
  obtain ⟨d, q4, q5⟩ := Option.bind_eq_some_iff.mp q3
  obtain ⟨g2, n2, rd, _⟩ := n.asData R vr q4
  exact ⟨b, truV (rd.mono n2.rel.sub) q5, c g2 H' n2⟩
theorem t_of_o {f : Cm PyData} (hK : X.K = K) (h : PE X e (tO K F f)) (he : Plain X e) : PT X e (tT K F (f.bnd fun x => .lift (truthD x))) := by
  subst hK
  refine (pt_truth h he).imp fun σ H Q ⟨g, ρ, k, b, k', R, q, c⟩ => ?_
  obtain ⟨r, k1, q1, q2⟩ := bnd_some q
  obtain ⟨q3, rfl⟩ := lift_some q2
  exact ⟨g, ρ, k, r, k', R, q1, fun v g' H' n vr => ⟨b, truV (vr.whole n.rel) q3, c g' H' n⟩⟩
/-- a truth value as a value -/
theorem v_of_b {f : Cm Bool} (h : PE X e (tO K F (f.bnd fun b => .ret (.bool b)))) : PE X e (tV K F (f.bnd fun b => .ret (.d (.bool b)))) := by
  refine h.imp fun σ H Q ⟨g, ρ, k, d, k', R, q, c⟩ => ?_
  obtain ⟨b, k1, q1, q2⟩ := bnd_some q
  obtain ⟨rfl, rfl⟩ := ret_some q2
  refine ⟨g, ρ, k, .bool b, k', R, ?_, fun v g' H' n vr => c v g' H' n ?_⟩
  · unfold Cm.bnd; rw [q1]; rfl
  · rw [vr.bool]; exact Rd.bl b

/-! ### names, constants -/
theorem pv_var {i : Nat} (h : PE X e (tVar i)) : PE X e (tV K F (varV i)) := by
  refine h.imp fun σ H Q ⟨g, ρ, k, d, k', R, q, c⟩ => ?_
  unfold varV at q
  split at q
  · rename_i x hx
    cases q
    obtain ⟨v, h1, h2⟩ := R.slot i _ hx
    exact ⟨v, h1, c v g H (Nxt.refl R) h2⟩
  · rename_i hx
    cases q
    obtain ⟨v, h1, h2⟩ := R.slot i _ hx
    exact ⟨v, h1, c v g H (Nxt.refl R) h2⟩
  · cases q
theorem po_var {i : Nat} (h : PE X e (tVar i)) : PE X e (tO K F (varO i)) := by
  refine h.imp fun σ H Q ⟨g, ρ, k, d, k', R, q, c⟩ => ?_
  unfold varO at q
  split at q
  · rename_i x hx
    cases q
    obtain ⟨v, h1, h2⟩ := R.slot i _ hx
    exact ⟨v, h1, c v g H (Nxt.refl R) (.inl h2)⟩
  · rename_i xs hx
    cases q
    obtain ⟨v, h1, h2⟩ := R.slot i _ hx
    exact ⟨v, h1, c v g H (Nxt.refl R) (.inr ⟨i, xs, h1, hx, rfl⟩)⟩
  · cases q
theorem pv_cst {u : V} {d : PyData} (h : PE X e (tC u)) (r : ∀ G, Rd K G u d) : PE X e (tV K F (.ret (.d d))) := by
  refine h.imp fun σ H Q ⟨g, ρ, k, x, k', R, q, c⟩ => ?_
  obtain ⟨rfl, rfl⟩ := ret_some q
  exact c u g H (Nxt.refl R) (r _)
theorem pv_glb {u : V} {o : Option DV} (h : PE X e (tC u)) (r : ∀ x, o = some x → ∃ d, x = .d d ∧ ∀ G, Rd K G u d) : PE X e (tV K F (.lift o)) := by
  refine h.imp fun σ H Q ⟨g, ρ, k, x, k', R, q, c⟩ => ?_
  obtain ⟨q', rfl⟩ := lift_some q
  obtain ⟨d, rfl, rd⟩ := r _ q'
  exact c u g H (Nxt.refl R) (rd _)

/-! ### several -/
abbrev NoStar (X : Cx) (e : Expr) (es : List Expr) : Prop := starEach (e :: es) X.env = (false, eval e X.env) :: starEach es X.env
theorem ds_nil : PA X [] (tDs K F (datsL [])) := pa_nil.imp fun σ H Q ⟨g, ρ, k, x, k', R, q, c⟩ => by
  obtain ⟨rfl, rfl⟩ := ret_some q
  exact c [] g H (Nxt.refl R) .nil
theorem ds_cons {a : Sm} {r : List Sm} {es : List Expr} (h : PE X e (tV K F a.v)) (hr : PA X es (tDs K F (datsL r))) (hs : NoStar X e es) : PA X (e :: es) (tDs K F (datsL (a :: r))) := by
  refine (pa_cons h hr hs).imp fun σ H Q ⟨g, ρ, k, x, k', R, q, c⟩ => ?_
  obtain ⟨y, k1, q1, q⟩ := bnd_some (show (a.v.bnd fun x => (Cm.lift x.dat).bnd fun d => (datsL r).bnd fun ds => .ret (d :: ds)) ρ k = _ from q)
  obtain ⟨d, k2, q2, qa⟩ := bnd_some q
  obtain ⟨q2', e2⟩ := lift_some q2
  subst e2
  obtain ⟨ds, k3, q3, qb⟩ := bnd_some qa
  obtain ⟨rfl, rfl⟩ := ret_some qb
  refine ⟨g, ρ, k, y, _, R, q1, fun v g1 H1 n1 vr => ?_⟩
  obtain ⟨g2, n2, rd, _⟩ := n1.asData R vr q2'
  exact ⟨g2, ρ, _, ds, _, n2.rel, q3, fun vs g3 H3 n3 ra => c _ g3 H3 (n2.trans n3) (.cons (rd.mono n3.sub) ra)⟩
theorem os_nil : PA X [] (tOs K F (opdsL [])) := pa_nil.imp fun σ H Q ⟨g, ρ, k, x, k', R, q, c⟩ => by
  obtain ⟨rfl, rfl⟩ := ret_some q
  exact c [] g H (Nxt.refl R) trivial
theorem os_cons {a : Sm} {r : List Sm} {es : List Expr} (h : PE X e (tO K F a.o)) (hr : PA X es (tOs K F (opdsL r))) (hs : NoStar X e es) : PA X (e :: es) (tOs K F (opdsL (a :: r))) := by
  refine (pa_cons h hr hs).imp fun σ H Q ⟨g, ρ, k, x, k', R, q, c⟩ => ?_
  obtain ⟨y, k1, q1, q⟩ := bnd_some (show (a.o.bnd fun x => (opdsL r).bnd fun ds => .ret (x :: ds)) ρ k = _ from q)
  obtain ⟨ds, k3, q3, q⟩ := bnd_some q
  obtain ⟨rfl, rfl⟩ := ret_some q
  exact ⟨g, ρ, k, y, k1, R, q1, fun v g1 H1 n1 vr => ⟨g1, ρ, k1, ds, _, n1.rel, q3, fun vs g3 H3 n3 ra => c _ g3 H3 (n1.trans n3) ⟨vr.nxt n3, ra⟩⟩⟩
theorem as_nil : PA X [] (tAs K F (argsL [])) := pa_nil.imp fun σ H Q ⟨g, ρ, k, x, k', R, q, c⟩ => by
  obtain ⟨rfl, rfl⟩ := ret_some q
  exact c [] g H (Nxt.refl R) trivial
theorem as_step {a : Sm} {r : List Sm} {σ : L2.St} {H : Hp} {Q : List V → Hp → Prop} {t : TA} (i : ∀ σ H Q, tAs K F (argsL r) σ H Q → t σ H Q) (h : tAs K F (argsL (a :: r)) σ H Q) : tCons (tV K F a.v) t σ H Q := by
  obtain ⟨g, ρ, k, x, k', R, q, c⟩ := h
  obtain ⟨y, k1, q1, q⟩ := bnd_some (show (a.v.bnd fun x => (argsL r).bnd fun ds => .ret (x.fz :: ds)) ρ k = _ from q)
  obtain ⟨ds, k3, q3, q⟩ := bnd_some q
  obtain ⟨rfl, rfl⟩ := ret_some q
  refine ⟨g, ρ, k, y, k1, R, q1, fun v g1 H1 n1 vr => ?_⟩
  obtain ⟨g2, n2, vf⟩ := n1.fz R vr
  exact i _ _ _ ⟨g2, ρ, k1, ds, _, n2.rel, q3, fun vs g3 H3 n3 ra => c _ g3 H3 (n2.trans n3) ⟨AR.nxt n3 (AR.ofVR vf), ra⟩⟩
theorem as_cons {a : Sm} {r : List Sm} {es : List Expr} (h : PE X e (tV K F a.v)) (hr : PA X es (tAs K F (argsL r))) (hs : NoStar X e es) : PA X (e :: es) (tAs K F (argsL (a :: r))) :=
  (pa_cons h hr hs).imp fun σ H Q q => as_step (fun _ _ _ z => z) q

/-! ### displays -/
theorem pv_tup {es : List Expr} {x1 : Nat} {pos : Pos} {f : Cm (List PyData)} (h : PA X es (tDs K F f)) (hz : es.length ≤ 100) (hl : ∀ ρ k ds k', f ρ k = some (ds, k') → ds.length = es.length) : PE X (.Tuple es x1 pos) (tV K F (f.bnd fun xs => .ret (.d (.tuple xs)))) := by
  refine (pe_tup h).imp fun σ H Q ⟨g, ρ, k, x, k', R, q, c⟩ => ?_
  obtain ⟨ds, k1, q1, q⟩ := bnd_some q
  obtain ⟨rfl, rfl⟩ := ret_some q
  refine ⟨g, ρ, k, ds, _, R, q1, fun vs g1 H1 n1 ra => ⟨?_, fun p hp => ?_⟩⟩
  · rw [ra.length, hl _ _ _ _ q1, sizeLine_eq]; omega
  · have n2 := n1.rel.layF (o := .tup vs) hp
    exact c _ _ _ (n1.trans n2) (.tup (.inl (.inl upd_same)) (ra.mono n2.sub))
theorem pv_lst {es : List Expr} {pos : Pos} {f : Cm (List PyData)} (h : PA X es (tDs K F f)) (hz : es.length ≤ 100) (hl : ∀ ρ k ds k', f ρ k = some (ds, k') → ds.length = es.length) : PE X (.List es pos) (tV K F (f.bnd fun xs => .ret (.own xs))) := by
  refine (pe_lst h).imp fun σ H Q ⟨g, ρ, k, x, k', R, q, c⟩ => ?_
  obtain ⟨ds, k1, q1, q⟩ := bnd_some q
  obtain ⟨rfl, rfl⟩ := ret_some q
  refine ⟨g, ρ, k, ds, _, R, q1, fun vs g1 H1 n1 ra => ⟨?_, fun p hp => ?_⟩⟩
  · rw [ra.length, hl _ _ _ _ q1, sizeLine_eq]; omega
  · exact c _ _ _ (n1.trans (n1.rel.layO hp)) ((n1.rel.ownNew hp ra).of n1.dm)
theorem datsL_len : ∀ (ms : List Sm) (ρ : Env) (k : OD) (ds : List PyData) (k' : OD), datsL ms ρ k = some (ds, k') → ds.length = ms.length
  | [], ρ, k, ds, k', h => by obtain ⟨rfl, rfl⟩ := ret_some h; rfl
  | a :: r, ρ, k, ds, k', h => by
    obtain ⟨y, k1, q1, q⟩ := bnd_some (show (a.v.bnd fun x => (Cm.lift x.dat).bnd fun d => (datsL r).bnd fun ds => .ret (d :: ds)) ρ k = _ from h)
    obtain ⟨d, k2, q2, q⟩ := bnd_some q
    obtain ⟨q2', e2⟩ := lift_some q2
    obtain ⟨es, k3, q3, q⟩ := bnd_some q
    obtain ⟨e3, e4⟩ := ret_some q
    rw [e3, List.length_cons, List.length_cons, datsL_len r _ _ _ _ q3]
end
end TA

set_option maxHeartbeats 4000000
/-! Operators by data. -/
namespace TA
open PySem PySem.Spec PyProof.Rows L2

/-- two operands in, a value out -/
def rVal (K : PySem.W.Frag) (F : Fm) (f : PyData → PyData → Option DV) : R2 := fun x y H Q => ∃ g σ ρ k d1 d2 r, Rel K F g H σ ρ k ∧ OpRd K g σ ρ x d1 ∧ OpRd K g σ ρ y d2 ∧ f d1 d2 = some r ∧
  ∀ v g' H', Nxt K F g H g' H' σ ρ k → VR K H g' H' v r → Q v H'
/-- two operands in, a truth value out -/
def rTru (K : PySem.W.Frag) (F : Fm) (f : PyData → PyData → Option Bool) : R2 := fun x y H Q => ∃ g σ ρ k d1 d2 b, Rel K F g H σ ρ k ∧ OpRd K g σ ρ x d1 ∧ OpRd K g σ ρ y d2 ∧ f d1 d2 = some b ∧ Q (.bl b) H

section
variable {X : Cx} {F : Fm}
theorem lstR {pins : List (Addr × Obj)} {s : Shared} {σ : L2.St} {H : Hp} {l : Addr} {xs : List V} (I : Inv X pins σ H s) (h : L2.Rd H l (.lst xs)) :
    xs.length ≤ sizeLine ∧ ∃ (its : List Value) (n : Nat), Vals xs its ∧ xs.length = its.length ∧ s.heap.get? l = some { cls := .type "list", data := .seq its.toArray n } := by
  obtain ⟨z, its, n, r, e⟩ := h.ok I.hok
  exact ⟨z, its, n, r, r.length, e⟩
def rCatR : R2 := fun x y H Q => ∃ l b xs zs, x = .ref l ∧ y = .ref b ∧ L2.Rd H l (.lst xs) ∧ L2.Rd H b (.lst zs) ∧ xs.length + zs.length ≤ sizeLine ∧ ∀ p, H p = none → Q (.ref p) (upd H p (.lst (xs ++ zs)))
theorem op_catR : OpR X (binaryOp .Add) rCatR := by
  rintro pins s σ H x y v u Q I rx ry ⟨l, b, xs, zs, rfl, rfl, hA, hB, hz, q⟩
  cases rx
  cases ry
  obtain ⟨z, i1, n, r, hl, e⟩ := lstR I hA
  obtain ⟨z2, i2, n2, r2, hl2, e2⟩ := lstR I hB
  refine PySem.P.add_list e e2 ?_ (by rw [List.size_toArray, List.size_toArray]; omega)
  rw [show i1.toArray ++ i2.toArray = (i1 ++ i2).toArray by simp]
  exact ⟨.ref _, _, I.lnew (t' := s.toks) (r.append r2) (by rw [List.length_append]; omega), rfl, q _ I.fresh⟩
def rRepR : R2 := fun x y H Q => ∃ l k xs, x = .ref l ∧ y = .int k ∧ L2.Rd H l (.lst xs) ∧ 0 ≤ k ∧ k ≤ 100000 ∧ xs.length * k.toNat ≤ sizeLine ∧ ∀ p, H p = none → Q (.ref p) (upd H p (.lst (List.replicate k.toNat xs).flatten))
theorem rep_fold (its : List Value) (m : Nat) : List.foldl (fun x1 x2 => x1 ++ x2) #[] (List.replicate m its.toArray) = (List.replicate m its).flatten.toArray := size_rep its m
theorem op_repR : OpR X (binaryOp .Mult) rRepR := by
  rintro pins s σ H x y v u Q I rx ry ⟨l, k, xs, rfl, rfl, hA, h1, h2, hz, q⟩
  cases rx
  obtain ⟨t, rfl⟩ := ry
  obtain ⟨z, its, n, r, hl, e⟩ := lstR I hA
  have hlen : its.toArray.size * k.toNat ≤ sizeLine := by rw [List.size_toArray, ← hl]; exact hz
  have hcap : ¬ its.toArray.size * k.toNat > (2 ^ 63 - 1) / 8 := Nat.not_lt.mpr (Nat.le_trans hlen (by decide))
  have hfit : ¬ (!Builtin.List.listFitsIndex k) = true := by rw [fitsIndex_both (by omega) (by omega)]; decide
  have hlong : ¬ Builtin.List.listTooLong (its.toArray.size * k.toNat) = true := by rw [notLongL hlen]; decide
  have hnew : List.foldl (fun x1 x2 => x1 ++ x2) #[] (List.replicate (if its.toArray.isEmpty = true then 0 else k.toNat) its.toArray) = (List.replicate k.toNat its).flatten.toArray := by
    rw [rep_fold]
    cases its with
    | nil => simp
    | cons a r' => rw [if_neg (by simp)]
  have go := call_meets (prog := X.prog) (w := X.w) (A := X.A) (E := X.xe) (s := s) (Q := EP X pins σ Q) PySem.F.slot_list_mul (show s.TypeIs (.ref l) "list" from ⟨_, e, rfl⟩) PySem.F.entry_list_mul (PySem.F.args_list_mul_2 _ _) (AutoListH.list___mul___list_int_3 l its.toArray n k t hfit hcap hlong) ⟨e, by
    rw [hnew]
    exact ⟨.ref _, _, I.lnew (t' := s.toks) (r.rep k.toNat) (by rw [PyProof.Rows.lm_len_rep_flat, Nat.mul_comm]; exact hz), rfl, q _ I.fresh⟩⟩
  exact wpAny_binaryOp_repeat_ref (T := "list") (U := "int") (by decide) ⟨_, e, rfl⟩ (fun s' => typeIs_int s' k t) noFill_list_mul PySem.F.fills_int_mul PySem.F.slot_int_rmul repeat_list PySem.F.slot_int_index.lookup
    (call_meets PySem.F.slot_int_rmul (typeIs_int s k t) PySem.F.entry_int_rmul (PySem.F.args_int_rmul_2 _ _) (int___rmul___int_list k t l its.toArray n) ⟨e, rfl, ⟨_, e, rfl⟩, go⟩)

theorem tuple_mulS (l : Addr) (items : Array Value) (n : Nat) (dd : Option Addr) (sl : Array (Option Value)) (x : Int) (u : Tok) (c0 : (decide (x < -(2 ^ 63)) || decide (x ≥ 2 ^ 63)) = false) (c1 : (items.isEmpty || x == 1) = true) :
    Meets (Builtin.«tuple.__mul__» ⟨[.ref l, .int x u], []⟩) (fun _ R s => s.heap.get? l = some { cls := .type "tuple", dict := dd, data := .seq items n, slots := sl } ∧ R (.ok (.ret (Value.ref l))) s) :=
  .of_wp fun prog w A R s h => by
    obtain ⟨hp, g, d, tk, os⟩ := s
    obtain ⟨hl, h⟩ := h
    have f1 := AutoSeq1.idx_int
    wp_walk using wpAny_loadPart' hl
    refine wpAny_ite_false (decide_eq_false (by rw [c0]; exact Bool.false_ne_true)) ?_
    wp_walk using wpAny_loadPart' hl
    exact ⟨_, rfl, h⟩
/-- a tuple, k times: itself, or a new one -/
def rRepTG (K : PySem.W.Frag) : R2 := fun x y H Q => ∃ l k xs, x = .ref l ∧ y = .int k ∧ SqT K H l xs ∧ 1 ≤ k ∧ k ≤ 100000 ∧ xs.length * k.toNat ≤ 100000 ∧
  ((xs = [] ∨ k = 1) → Q (.ref l) H) ∧ (xs ≠ [] → k ≠ 1 → ∀ p, H p = none → Q (.ref p) (upd H p (.tup (List.replicate k.toNat xs).flatten)))
theorem op_repTG : OpR X (binaryOp .Mult) (rRepTG X.K) := by
  rintro pins s σ H x y v u Q I rx ry ⟨l, k, xs, rfl, rfl, hT, h1, h2, hz, q0, q⟩
  cases rx
  obtain ⟨t, rfl⟩ := ry
  obtain ⟨its, r, ⟨⟨cls, dd, data, sl⟩, ho, hc, n, hd⟩, hs⟩ := I.tuple hT
  simp only at hc hd
  subst hc hd
  have hle : its.length = xs.length := r.length.symm
  have c0 : (decide (k < -(2 ^ 63)) || decide (k ≥ 2 ^ 63)) = false := by rw [decide_eq_false (show ¬ k < -(2 ^ 63) by omega), decide_eq_false (show ¬ k ≥ 2 ^ 63 by omega)]; rfl
  have flat : (List.replicate k.toNat its).flatten.length ≤ 100000 := by rw [PyProof.Rows.lm_len_rep_flat, hle, Nat.mul_comm]; exact hz
  have go : wpAny (model X.prog X.w) X.A (call (.builtin "tuple.__mul__") [.ref l, .int k t]) (EP X pins σ Q) X.xe s := by
    by_cases hs1 : xs = [] ∨ k = 1
    · have c1 : (its.toArray.isEmpty || k == 1) = true := by
        rcases hs1 with e | e
        · rw [e] at hle; rw [List.eq_nil_of_length_eq_zero hle]; rfl
        · rw [e]; simp
      exact call_meets PySem.F.slot_tuple_mul (show s.TypeIs (.ref l) "tuple" from ⟨_, ho, rfl⟩) PySem.F.entry_tuple_mul (PySem.F.args_tuple_mul_2 _ _) (tuple_mulS l its.toArray n dd sl k t c0 c1) ⟨ho, .ref l, H, I, rfl, q0 hs1⟩
    · have hne : xs ≠ [] := fun e => hs1 (.inl e)
      have hk1 : k ≠ 1 := fun e => hs1 (.inr e)
      have hi : its.toArray.isEmpty = false := by
        cases its with
        | nil => exact absurd (List.eq_nil_of_length_eq_zero hle.symm) hne
        | cons a b => rfl
      have c1 : (its.toArray.isEmpty || k == 1) = false := by rw [hi, Bool.false_or]; exact beq_eq_false_iff_ne.mpr hk1
      have c2 : (decide (k ≤ 0) || its.toArray.isEmpty) = false := by rw [hi, Bool.or_false]; exact decide_eq_false (by omega)
      have hm : ((its.toArray.size : Nat) : Int) * k ≤ 100000 := by
        have e : ((its.toArray.size : Nat) : Int) * k = ((xs.length * k.toNat : Nat) : Int) := by
          rw [List.size_toArray, hle, Int.natCast_mul]; congr 1; omega
        rw [e]; omega
      have c4 : Builtin.Tuple.tupleTooMany (((its.toArray.size : Nat) : Int) * k) = false := by
        unfold Builtin.Tuple.tupleTooMany
        rw [sizeLine_eq]
        exact decide_eq_false (by omega)
      refine call_meets PySem.F.slot_tuple_mul (show s.TypeIs (.ref l) "tuple" from ⟨_, ho, rfl⟩) PySem.F.entry_tuple_mul (PySem.F.args_tuple_mul_2 _ _)
        (tuple_mulW l its.toArray n dd sl k t c0 c1 c2 (by omega) c4 (by rw [rep_fold, List.size_toArray, sizeLine_eq]; omega)) ⟨ho, ?_⟩
      rw [rep_fold]
      refine ⟨.ref s.heap.objs.size, _, I.laid (t' := s.toks) (o := .tup (List.replicate k.toNat xs).flatten) (fun b ob z => Heap.get?_push_of_some _ z) (Nat.le_refl _) ?_, rfl, q hne hk1 _ (I.hok.fresh (Nat.le_refl _))⟩
      exact ⟨by rw [PyProof.Rows.lm_len_rep_flat, sizeLine_eq, Nat.mul_comm]; omega, _, r.rep k.toNat, IsTup.new _ _⟩
  exact wpAny_binaryOp_repeat_ref (T := "tuple") (U := "int") (by decide) ⟨_, ho, rfl⟩ (fun s' => typeIs_int s' k t) noFill_tuple_mul PySem.F.fills_int_mul PySem.F.slot_int_rmul repeat_tuple PySem.F.slot_int_index.lookup
    (call_meets PySem.F.slot_int_rmul (typeIs_int s k t) PySem.F.entry_int_rmul (PySem.F.args_int_rmul_2 _ _) (int_rmul_tuple k t l its.toArray n dd sl) ⟨ho, rfl, ⟨_, ho, rfl⟩, go⟩)

theorem smallI_iff {i : Int} (h : smallI i = true) : -(2 ^ 64) < i ∧ i < 2 ^ 64 := by
  unfold smallI at h
  rw [Bool.and_eq_true] at h
  exact ⟨of_decide_eq_true h.1, of_decide_eq_true h.2⟩
theorem rep1 (xs : List PyData) : (List.replicate (1 : Int).toNat xs).flatten = xs := by simp
/-- a op b -/
theorem op_bin (op : Operator) : OpR X (binaryOp op) (rVal X.K F (binD op)) := by
  rintro pins s σ' H x y v u Q I rx ry ⟨g, σ, ρ, k, d1, d2, r, R, o1, o2, hb, c⟩
  have nR := Nxt.refl R
  have ci : ∀ z, r = .d (.int z) → Q (.int z) H := fun z e => c _ g H nR (by rw [e]; exact Rd.int z)
  have cs : ∀ z, r = .d (.str z) → Q (.str z) H := fun z e => c _ g H nR (by rw [e]; exact Rd.str z)
  unfold binD at hb
  split at hb
  · cases o1.int; cases o2.int; cases hb
    exact op_add pins s σ' H _ _ v u Q I rx ry ⟨_, _, rfl, rfl, ci _ rfl⟩
  · cases o1.int; cases o2.int; cases hb
    exact op_sub pins s σ' H _ _ v u Q I rx ry ⟨_, _, rfl, rfl, ci _ rfl⟩
  · cases o1.int; cases o2.int
    split at hb
    · rename_i i j hs
      cases hb
      refine op_mul pins s σ' H _ _ v u Q I rx ry ⟨_, _, rfl, rfl, ?_, ci _ rfl⟩
      rw [Bool.or_eq_true] at hs
      exact hs.imp smallI_iff smallI_iff
    · cases hb
  · cases o1.int; cases o2.int
    split at hb
    · rename_i i j hs
      cases hb
      exact op_fdiv pins s σ' H _ _ v u Q I rx ry ⟨_, _, rfl, rfl, hs, ci _ rfl⟩
    · cases hb
  · cases o1.int; cases o2.int
    split at hb
    · rename_i i j hs
      cases hb
      exact op_mod pins s σ' H _ _ v u Q I rx ry ⟨_, _, rfl, rfl, hs, ci _ rfl⟩
    · cases hb
  · cases o1.int; cases o2.int
    split at hb
    · rename_i i j hs
      cases hb
      exact op_pow pins s σ' H _ _ v u Q I rx ry ⟨_, _, rfl, rfl, ⟨hs.1, by omega, hs.2.2⟩, ci _ rfl⟩
    · cases hb
  · cases o1.str; cases o2.str
    split at hb
    · rename_i i j hs
      cases hb
      exact op_add_str pins s σ' H _ _ v u Q I rx ry ⟨_, _, rfl, rfl, hs, cs _ rfl⟩
    · cases hb
  · obtain ⟨a, vs, rfl, h1, h2⟩ := o1.list R
    obtain ⟨b, ws, rfl, h3, h4⟩ := o2.list R
    split at hb
    · rename_i i j hs
      cases hb
      exact op_catR pins s σ' H _ _ v u Q I rx ry ⟨a, b, vs, ws, rfl, rfl, h1, h3, by rw [h2.length, h4.length]; exact hs, fun p hp => c _ g _ (R.layO hp) (R.ownNew hp (h2.append h4))⟩
    · cases hb
  · obtain ⟨a, vs, rfl, h1, h2⟩ := o1.tuple R
    obtain ⟨b, ws, rfl, h3, h4⟩ := o2.tuple R
    split at hb
    · rename_i i j hs
      cases hb
      have t1 : ∀ w d, w = V.ref a → OpRd X.K g σ ρ w d → True := fun _ _ _ _ => trivial
      have rd1 : Rd X.K g.G (.ref a) (.tuple i) := by
        rcases o1 with z | ⟨_, _, _, _, z⟩
        · exact z
        · cases z
      have rd2 : Rd X.K g.G (.ref b) (.tuple j) := by
        rcases o2 with z | ⟨_, _, _, _, z⟩
        · exact z
        · cases z
      refine op_catA pins s σ' H _ _ v u Q I rx ry ⟨a, b, vs, ws, rfl, rfl, h1, h3, by rw [h2.length, h4.length]; exact hs, fun e => ?_, fun _ e => ?_, fun _ _ p hp => ?_⟩
      · subst e; cases h2; exact c _ g H nR rd2
      · subst e; cases h4
        refine c _ g H nR ?_
        rw [List.append_nil]; exact rd1
      · have n2 := R.layF (o := .tup (vs ++ ws)) hp
        exact c _ _ _ n2 (.tup (.inl (.inl upd_same)) ((h2.append h4).mono n2.sub))
    · cases hb
  · obtain ⟨a, vs, rfl, h1, h2⟩ := o1.list R
    cases o2.int
    split at hb
    · rename_i i j hs
      cases hb
      exact op_repR pins s σ' H _ _ v u Q I rx ry ⟨a, _, vs, rfl, rfl, h1, hs.1, hs.2.1, by rw [h2.length]; exact hs.2.2, fun p hp => c _ g _ (R.layO hp) (R.ownNew hp (h2.rep _))⟩
    · cases hb
  · obtain ⟨a, vs, rfl, h1, h2⟩ := o1.tuple R
    cases o2.int
    split at hb
    · rename_i i j hs
      cases hb
      have rd1 : Rd X.K g.G (.ref a) (.tuple i) := by
        rcases o1 with z | ⟨_, _, _, _, z⟩
        · exact z
        · cases z
      refine op_repTG pins s σ' H _ _ v u Q I rx ry ⟨a, _, vs, rfl, rfl, h1, hs.1, hs.2.1, by rw [h2.length]; exact hs.2.2, fun e => c _ g H nR ?_, fun _ _ p hp => ?_⟩
      · rcases e with e | e
        · subst e; cases h2; show Rd X.K g.G _ _; simpa using rd1
        · subst e; rw [rep1]; exact rd1
      · have n2 := R.layF (o := .tup (List.replicate j.toNat vs).flatten) hp
        exact c _ _ _ n2 (.tup (.inl (.inl upd_same)) ((h2.rep _).mono n2.sub))
    · cases hb
  · cases o1.str
    cases o2.int
    split at hb
    · rename_i i j hs
      cases hb
      obtain ⟨t, rfl⟩ := rx
      obtain ⟨t', rfl⟩ := ry
      have e : ((i.length : Int) * j) = ((i.length * j.toNat : Nat) : Int) := by rw [Int.natCast_mul]; congr 1; omega
      refine SB.mul ⟨?_, fun _ _ => ?_, fun _ _ => ?_⟩ fun t' k => ⟨.str _, H, I.tok _, ⟨_, rfl⟩, cs _ rfl⟩
      · rw [decide_eq_false (show ¬ j < -(2 ^ 63) by omega), decide_eq_false (show ¬ j ≥ 2 ^ 63 by omega)]; rfl
      · intro hlt
        have h1 : (2 ^ 63 - 1 : Int) < i.length * j := by
          have := Int.lt_mul_of_ediv_lt (show (0 : Int) < j by omega) hlt
          exact this
        rw [e] at h1
        omega
      · unfold Builtin.Str.tooLong
        rw [sizeLine_eq]
        exact decide_eq_false (by omega)
    · cases hb
  · cases hb
end
end TA

set_option maxHeartbeats 4000000
/-! Comparisons, places, slices, built-ins by data. -/
namespace TA
open PySem PySem.Spec PyProof.Rows L2

section
variable {K : PySem.W.Frag} {G : Hp}
mutual
theorem Rd.dp : ∀ (d : PyData) (v : V), Rd K G v d → d.canLay0 = true → Dp K G v d
  | .none, _, h, _ => by cases h; exact .non
  | .bool _, _, h, _ => by cases h; exact .bl _
  | .int _, _, h, _ => by cases h; exact .int _
  | .str _, _, h, _ => by cases h; exact .str _
  | .list ds, _, h, c => by cases h with | lst q r => exact .lst (.inl q) (RdA.dp ds _ r (by simpa [PyData.canLay0] using c))
  | .tuple ds, _, h, c => by cases h with | tup q r => exact .tup q (RdA.dp ds _ r (by simpa [PyData.canLay0] using c))
  | .dict _, _, _, c => by simp [PyData.canLay0] at c
theorem RdA.dp : ∀ (ds : List PyData) (vs : List V), RdA K G vs ds → PyData.canLayAll0 ds = true → DpAll K G vs ds
  | [], _, h, _ => by cases h; exact .nil
  | d :: ds, _, h, c => by
    cases h with
    | cons q r =>
      rw [PyData.canLayAll0, Bool.and_eq_true] at c
      exact .cons (Rd.dp d _ q c.1) (RdA.dp ds _ r c.2)
end
theorem Rd.dpS {d : PyData} {v : V} (h : Rd K G v d) (c : SeqAt.shaped d = true) : Dp K G v d := h.dp _ _ (SeqAt.canLay_of_shaped c)
theorem flat_of {d : PyData} {v : V} (h : Rd K G v d) (f : isFlat d = true) : flatV v = true := by
  cases h with
  | non => rfl
  | bl _ => rfl
  | int _ => rfl
  | str _ => rfl
  | _ => cases f
theorem flats_of : ∀ {ds : List PyData} {vs : List V}, RdA K G vs ds → ds.all isFlat = true → vs.all flatV = true
  | _, _, .nil, _ => rfl
  | _, _, .cons q r, f => by
    rw [List.all_cons, Bool.and_eq_true] at f ⊢
    exact ⟨flat_of q f.1, flats_of r f.2⟩
theorem eqV_of {d1 d2 : PyData} {v1 v2 : V} (h1 : Rd K G v1 d1) (h2 : Rd K G v2 d2) (f1 : isFlat d1 = true) (f2 : isFlat d2 = true) : eqV v1 v2 = PyData.eqv d1 d2 := by
  cases h1 <;> first
    | (cases h2 <;> first | rfl | (simp [eqV, PyData.eqv]; done) | cases f2)
    | cases f1
theorem inV_of {d : PyData} {v : V} (h : Rd K G v d) (f : isFlat d = true) : ∀ {ds : List PyData} {vs : List V}, RdA K G vs ds → ds.all isFlat = true → inV v vs = ds.any fun z => PyData.eqv z d
  | _, _, .nil, _ => rfl
  | _, _, .cons q r, fs => by
    rw [List.all_cons, Bool.and_eq_true] at fs
    have ih := inV_of h f r fs.2
    unfold inV at ih ⊢
    rw [List.any_cons, List.any_cons, ih, eqV_of q h fs.1 f]
end

section
variable {X : Cx} {F : Fm}
theorem op_cmp (hu : X.A.units + 65 < cLine) (op : CmpOp) : OpR X (compareOp op) (rTru X.K F (cmpD op)) := by
  rintro pins s σ' H x y v u Q I rx ry ⟨g, σ, ρ, k, d1, d2, b, R, o1, o2, hb, c⟩
  have w1 := o1.whole R
  have w2 := o2.whole R
  unfold cmpD at hb
  split at hb
  · rename_i a b
    cases o1.str; cases o2.str; cases hb
    exact op_eq pins s σ' H _ _ v u Q I rx ry ⟨rfl, by rw [show decide (V.str a = V.str b) = (a == b) by rw [Bool.eq_iff_iff]; simp]; exact c⟩
  · rename_i a b
    cases o1.str; cases o2.str; cases hb
    exact op_ne pins s σ' H _ _ v u Q I rx ry ⟨rfl, by rw [show decide (V.str a = V.str b) = (a == b) by rw [Bool.eq_iff_iff]; simp]; exact c⟩
  · obtain ⟨a1, vs1, rfl, h1, r1⟩ := o1.list R
    obtain ⟨a2, vs2, rfl, h2, r2⟩ := o2.list R
    cases rx
    cases ry
    cases hb
    obtain ⟨its, rv, p1, _⟩ := I.list (.inl h1)
    obtain ⟨its2, rv2, p2, _⟩ := I.list (.inl h2)
    refine SeqAt.RcAt.lists_lengths p1.isList p2.isList ?_ (by omega) X.prog X.w X.xe _ ⟨.bl false, H, I, rfl, c⟩
    have e1 := rv.length
    have e2 := rv2.length
    have e3 := r1.length
    have e4 := r2.length
    simp only [List.length_cons, List.length_nil] at e3 e4
    simp only [List.size_toArray, bne_iff_ne, ne_eq]
    omega
  · split at hb
    · rename_i hs
      rw [Bool.and_eq_true] at hs
      cases hb
      exact op_eqD (by omega) pins s σ' H _ _ v u Q I rx ry ⟨_, _, w1.dpS hs.1, w2.dpS hs.2, hs.1, hs.2, c⟩
    · cases hb
  · split at hb
    · rename_i hs
      rw [Bool.and_eq_true] at hs
      cases hb
      exact op_neD (by omega) pins s σ' H _ _ v u Q I rx ry ⟨_, _, w1.dpS hs.1, w2.dpS hs.2, hs.1, hs.2, c⟩
    · cases hb
  · cases o1.int; cases o2.int; cases hb
    exact op_lt pins s σ' H _ _ v u Q I rx ry ⟨_, _, rfl, rfl, c⟩
  · cases o1.int; cases o2.int; cases hb
    exact op_le pins s σ' H _ _ v u Q I rx ry ⟨_, _, rfl, rfl, c⟩
  · cases o1.int; cases o2.int; cases hb
    exact op_gt pins s σ' H _ _ v u Q I rx ry ⟨_, _, rfl, rfl, c⟩
  · cases o1.int; cases o2.int; cases hb
    exact op_ge pins s σ' H _ _ v u Q I rx ry ⟨_, _, rfl, rfl, c⟩
  · split at hb
    · rename_i hs
      rw [Bool.and_eq_true] at hs
      cases hb
      exact op_inD hu pins s σ' H _ _ v u Q I rx ry ⟨_, _, w1.dpS hs.1, w2.dpS hs.2, hs.1, hs.2, c⟩
    · cases hb
  · split at hb
    · rename_i hs
      rw [Bool.and_eq_true] at hs
      cases hb
      exact op_notInD hu pins s σ' H _ _ v u Q I rx ry ⟨_, _, w1.dpS hs.1, w2.dpS hs.2, hs.1, hs.2, c⟩
    · cases hb
  · split at hb
    · rename_i hs
      rw [Bool.and_eq_true] at hs
      cases hb
      obtain ⟨a, vs, rfl, h1, h2⟩ := o2.tuple R
      refine op_in_seq pins s σ' H _ _ v u Q I rx ry ⟨a, vs, rfl, .inr h1, flat_of w1 hs.1, flats_of (h2.mono R.sub) hs.2, ?_⟩
      rw [if_neg (by decide), inV_of w1 hs.1 (h2.mono R.sub) hs.2]
      exact c
    · cases hb
  · split at hb
    · rename_i hs
      rw [Bool.and_eq_true] at hs
      cases hb
      obtain ⟨a, vs, rfl, h1, h2⟩ := o2.tuple R
      refine op_notIn_seq pins s σ' H _ _ v u Q I rx ry ⟨a, vs, rfl, .inr h1, flat_of w1 hs.1, flats_of (h2.mono R.sub) hs.2, ?_⟩
      rw [if_pos rfl, inV_of w1 hs.1 (h2.mono R.sub) hs.2]
      exact c
    · cases hb
  · cases hb

variable {e a b : Expr} {pos : Pos}
theorem pv_bin {fa fb : Cm PyData} {op : Operator} (ha : PE X a (tO X.K F fa)) (hb : PE X b (tO X.K F fb)) : PE X (.BinOp a op b pos) (tV X.K F (fa.bnd fun x => fb.bnd fun y => .lift (binD op x y))) := by
  refine (pe_op (op_bin (F := F) op) ha hb).imp fun σ H Q ⟨g, ρ, k, r, k', R, q, c⟩ => ?_
  obtain ⟨x, k1, q1, qa⟩ := bnd_some q
  obtain ⟨y, k2, q2, qb⟩ := bnd_some qa
  obtain ⟨q3, e3⟩ := lift_some qb
  subst e3
  exact ⟨g, ρ, k, x, k1, R, q1, fun v g1 H1 n1 o1 => ⟨g1, ρ, k1, y, _, n1.rel, q2, fun w g2 H2 n2 o2 =>
    ⟨g2, σ, ρ, _, x, y, r, n2.rel, o1.nxt n2, o2, q3, fun z g3 H3 n3 vr => c z g3 H3 ((n1.trans n2).trans n3) (vr.of (n1.trans n2).dm)⟩⟩⟩
theorem cmp_imp {fa fb : Cm PyData} {op : CmpOp} {σ : L2.St} {H : Hp} {Q : VK} (h : tO X.K F ((fa.bnd fun x => fb.bnd fun y => .lift (cmpD op x y)).bnd fun b => .ret (.bool b)) σ H Q) : tOp (rTru X.K F (cmpD op)) (tO X.K F fa) (tO X.K F fb) σ H Q := by
  obtain ⟨g, ρ, k, r, k', R, q, c⟩ := h
  obtain ⟨z, k3, q0, qz⟩ := bnd_some q
  obtain ⟨x, k1, q1, qa⟩ := bnd_some q0
  obtain ⟨y, k2, q2, qb⟩ := bnd_some qa
  obtain ⟨q3, e3⟩ := lift_some qb
  obtain ⟨e4, e5⟩ := ret_some qz
  subst e3 e4 e5
  exact ⟨g, ρ, k, x, k1, R, q1, fun v g1 H1 n1 o1 => ⟨g1, ρ, k1, y, _, n1.rel, q2, fun w g2 H2 n2 o2 =>
    ⟨g2, σ, ρ, _, x, y, z, n2.rel, o1.nxt n2, o2, q3, c _ g2 H2 (n1.trans n2) (.inl (Rd.bl z))⟩⟩⟩
theorem po_cmp (hu : X.A.units + 65 < cLine) {fa fb : Cm PyData} {op : CmpOp} (ha : PE X a (tO X.K F fa)) (hb : PE X b (tO X.K F fb)) (hm : behindInMarks op b = false) : PE X (.Compare a [op] [b] pos) (tO X.K F ((fa.bnd fun x => fb.bnd fun y => .lift (cmpD op x y)).bnd fun b => .ret (.bool b))) :=
  (pe_cmpR (op_cmp hu op) ha hb hm).imp fun σ H Q h => cmp_imp h
theorem pt_cmpD (hu : X.A.units + 65 < cLine) {fa fb : Cm PyData} {op : CmpOp} (ha : PE X a (tO X.K F fa)) (hb : PE X b (tO X.K F fb)) (hm : behindInMarks op b = false) : PT X (.Compare a [op] [b] pos) (tT X.K F (fa.bnd fun x => fb.bnd fun y => .lift (cmpD op x y))) := by
  refine (pt_cmpR (op_cmp (F := F) hu op) ha hb hm).imp fun σ H Q ⟨g, ρ, k, r, k', R, q, c⟩ => ?_
  refine cmp_imp ⟨g, ρ, k, .bool r, k', R, ?_, fun v g' H' n o => ⟨r, o.bool, c g' H' n⟩⟩
  unfold Cm.bnd at q ⊢
  rw [q]; rfl
/-- a < b < c -/
theorem chain_imp {fa fb fc : Cm PyData} {o1 o2 : CmpOp} {σ : L2.St} {H : Hp} {Q : VK} (h : tO X.K F ((fa.bnd fun x => fb.bnd fun y => (Cm.lift (cmpD o1 x y)).bnd fun r => if r then fc.bnd fun z => .lift (cmpD o2 y z) else .ret false).bnd fun b => .ret (.bool b)) σ H Q) :
    tChain (rTru X.K F (cmpD o1)) (rTru X.K F (cmpD o2)) (tO X.K F fa) (tO X.K F fb) (tO X.K F fc) σ H Q := by
  obtain ⟨g, ρ, k, r, k', R, q, c⟩ := h
  obtain ⟨z, k3, q0, qz⟩ := bnd_some q
  obtain ⟨x, k1, q1, qa⟩ := bnd_some q0
  obtain ⟨y, k2, q2, qb⟩ := bnd_some qa
  obtain ⟨t, k4, q3, qc⟩ := bnd_some qb
  obtain ⟨q3', e3⟩ := lift_some q3
  obtain ⟨e4, e5⟩ := ret_some qz
  subst e3 e4 e5
  refine ⟨g, ρ, k, x, k1, R, q1, fun v g1 H1 n1 o1 => ⟨g1, ρ, k1, y, _, n1.rel, q2, fun w g2 H2 n2 o2 => ⟨g2, σ, ρ, _, x, y, t, n2.rel, o1.nxt n2, o2, q3', t, rfl, ?_⟩⟩⟩
  cases t with
  | false =>
    rw [if_neg (by decide)] at qc
    obtain ⟨e6, e7⟩ := ret_some qc
    subst e6 e7
    rw [if_neg (by decide)]
    exact c _ g2 H2 (n1.trans n2) (.inl (Rd.bl _))
  | true =>
    rw [if_pos rfl] at qc
    obtain ⟨u, k5, q4, qd⟩ := bnd_some qc
    obtain ⟨q5, e6⟩ := lift_some qd
    subst e6
    rw [if_pos rfl]
    exact ⟨g2, ρ, _, u, _, n2.rel, q4, fun w' g3 H3 n3 o3 => ⟨g3, σ, ρ, _, y, u, z, n3.rel, o2.nxt n3, o3, q5, c _ g3 H3 ((n1.trans n2).trans n3) (.inl (Rd.bl z))⟩⟩
theorem po_chain (hu : X.A.units + 65 < cLine) {cx : Expr} {fa fb fc : Cm PyData} {o1 o2 : CmpOp} (ha : PE X a (tO X.K F fa)) (hb : PE X b (tO X.K F fb)) (hc : PE X cx (tO X.K F fc)) (hm : lastMarks [o1, o2] [b, cx] = false) :
    PE X (.Compare a [o1, o2] [b, cx] pos) (tO X.K F ((fa.bnd fun x => fb.bnd fun y => (Cm.lift (cmpD o1 x y)).bnd fun r => if r then fc.bnd fun z => .lift (cmpD o2 y z) else .ret false).bnd fun b => .ret (.bool b))) :=
  (pe_chain (op_cmp hu o1) (op_cmp hu o2) ha hb hc hm).imp fun σ H Q h => chain_imp h
theorem pt_chainD (hu : X.A.units + 65 < cLine) {cx : Expr} {fa fb fc : Cm PyData} {o1 o2 : CmpOp} (ha : PE X a (tO X.K F fa)) (hb : PE X b (tO X.K F fb)) (hc : PE X cx (tO X.K F fc)) (hm : lastMarks [o1, o2] [b, cx] = false) :
    PT X (.Compare a [o1, o2] [b, cx] pos) (tT X.K F (fa.bnd fun x => fb.bnd fun y => (Cm.lift (cmpD o1 x y)).bnd fun r => if r then fc.bnd fun z => .lift (cmpD o2 y z) else .ret false)) := by
  refine (pt_chain (op_cmp (F := F) hu o1) (op_cmp (F := F) hu o2) ha hb hc hm).imp fun σ H Q ⟨g, ρ, k, r, k', R, q, c⟩ => ?_
  refine chain_imp ⟨g, ρ, k, .bool r, k', R, ?_, fun v g' H' n o => ⟨r, o.bool, c g' H' n⟩⟩
  show Cm.bnd _ _ ρ k = _
  generalize (fa.bnd fun x => fb.bnd fun y => (Cm.lift (cmpD o1 x y)).bnd fun r => if r then fc.bnd fun z => .lift (cmpD o2 y z) else .ret false) = f at q
  unfold Cm.bnd
  rw [q]; rfl
/-- is None -/
theorem rdNon {K : PySem.W.Frag} {G : Hp} {v : V} {d : PyData} (h : Rd K G v d) : decide (v = .non) = isNone d := by cases h <;> rfl
end
end TA

set_option maxHeartbeats 4000000
/-! More expressions: tests, places, slices, built-ins. -/
namespace TA
open PySem PySem.Spec PyProof.Rows L2

section
variable {X : Cx} {F : Fm} {e a b : Expr} {pos : Pos}
theorem po_isN {fa : Cm PyData} {j : Nat} {pos' : Pos} (ha : PE X a (tO X.K F fa)) : PE X (.Compare a [.Is] [.Constant .none j pos'] pos) (tO X.K F ((fa.bnd fun x => .ret (isNone x)).bnd fun b => .ret (.bool b))) := by
  refine (pe_cmp (pc_isN ha) rfl).imp fun σ H Q ⟨g, ρ, k, r, k', R, q, c⟩ => ?_
  obtain ⟨z, k3, q0, qz⟩ := bnd_some q
  obtain ⟨x, k1, q1, qa⟩ := bnd_some q0
  obtain ⟨e3, e4⟩ := ret_some qa
  obtain ⟨e5, e6⟩ := ret_some qz
  subst e3 e4 e5 e6
  refine ⟨g, ρ, k, x, _, R, q1, fun v g1 H1 n1 o1 => ?_⟩
  show Q (V.bl (decide (v = V.non))) H1
  rw [rdNon (o1.whole n1.rel)]
  exact c _ g1 H1 n1 (.inl (Rd.bl _))
theorem po_notN {fa : Cm PyData} {j : Nat} {pos' : Pos} (ha : PE X a (tO X.K F fa)) : PE X (.Compare a [.IsNot] [.Constant .none j pos'] pos) (tO X.K F ((fa.bnd fun x => .ret (!isNone x)).bnd fun b => .ret (.bool b))) := by
  refine (pe_cmp (pc_notN ha) rfl).imp fun σ H Q ⟨g, ρ, k, r, k', R, q, c⟩ => ?_
  obtain ⟨z, k3, q0, qz⟩ := bnd_some q
  obtain ⟨x, k1, q1, qa⟩ := bnd_some q0
  obtain ⟨e3, e4⟩ := ret_some qa
  obtain ⟨e5, e6⟩ := ret_some qz
  subst e3 e4 e5 e6
  refine ⟨g, ρ, k, x, _, R, q1, fun v g1 H1 n1 o1 => ?_⟩
  show Q (V.bl (!decide (v = V.non))) H1
  rw [rdNon (o1.whole n1.rel)]
  exact c _ g1 H1 n1 (.inl (Rd.bl _))
theorem pt_isN {fa : Cm PyData} {j : Nat} {pos' : Pos} (ha : PE X a (tO X.K F fa)) : PT X (.Compare a [.Is] [.Constant .none j pos'] pos) (tT X.K F (fa.bnd fun x => .ret (isNone x))) := by
  refine (pt_cmp (pc_isN ha) rfl).imp fun σ H Q ⟨g, ρ, k, r, k', R, q, c⟩ => ?_
  obtain ⟨x, k1, q1, qa⟩ := bnd_some q
  obtain ⟨e3, e4⟩ := ret_some qa
  subst e3 e4
  refine ⟨g, ρ, k, x, _, R, q1, fun v g1 H1 n1 o1 => ⟨_, rfl, ?_⟩⟩
  rw [rdNon (o1.whole n1.rel)]
  exact c g1 H1 n1
theorem pt_notN {fa : Cm PyData} {j : Nat} {pos' : Pos} (ha : PE X a (tO X.K F fa)) : PT X (.Compare a [.IsNot] [.Constant .none j pos'] pos) (tT X.K F (fa.bnd fun x => .ret (!isNone x))) := by
  refine (pt_cmp (pc_notN ha) rfl).imp fun σ H Q ⟨g, ρ, k, r, k', R, q, c⟩ => ?_
  obtain ⟨x, k1, q1, qa⟩ := bnd_some q
  obtain ⟨e3, e4⟩ := ret_some qa
  subst e3 e4
  refine ⟨g, ρ, k, x, _, R, q1, fun v g1 H1 n1 o1 => ⟨_, rfl, ?_⟩⟩
  rw [rdNon (o1.whole n1.rel)]
  exact c g1 H1 n1
/-- not -/
theorem po_not {fa : Cm PyData} (ha : PE X a (tO X.K F fa)) : PE X (.UnaryOp .Not a pos) (tO X.K F ((fa.bnd fun x => (Cm.lift (truthD x)).bnd fun b => .ret (!b)).bnd fun b => .ret (.bool b))) := by
  refine (pe_notT ha).imp fun σ H Q ⟨g, ρ, k, r, k', R, q, c⟩ => ?_
  obtain ⟨z, k3, q0, qz⟩ := bnd_some q
  obtain ⟨x, k1, q1, qa⟩ := bnd_some q0
  obtain ⟨y, k2, q2, qb⟩ := bnd_some qa
  obtain ⟨q2', e2⟩ := lift_some q2
  obtain ⟨e3, e4⟩ := ret_some qb
  obtain ⟨e5, e6⟩ := ret_some qz
  subst e2 e3 e4 e5 e6
  exact ⟨g, ρ, k, x, _, R, q1, fun v g1 H1 n1 o1 => ⟨y, truV (o1.whole n1.rel) q2', c _ g1 H1 n1 (.inl (Rd.bl _))⟩⟩
theorem pt_notD {fa : Cm Bool} (ha : PT X a (tT X.K F fa)) : PT X (.UnaryOp .Not a pos) (tT X.K F (fa.bnd fun b => .ret (!b))) := by
  refine (pt_not ha).imp fun σ H Q ⟨g, ρ, k, r, k', R, q, c⟩ => ?_
  obtain ⟨x, k1, q1, qa⟩ := bnd_some q
  obtain ⟨e3, e4⟩ := ret_some qa
  subst e3 e4
  exact ⟨g, ρ, k, x, _, R, q1, fun g1 H1 n1 => c g1 H1 n1⟩
/-- and, or -/
theorem fz1_imp {fa : Cm DV} {σ : L2.St} {H : Hp} {Q : VK} (h : tV X.K F (fa.bnd fun x => .ret x.fz) σ H Q) : tV X.K F fa σ H Q := by
  obtain ⟨g, ρ, k, r, k', R, q, c⟩ := h
  obtain ⟨x, k1, q1, qa⟩ := bnd_some q
  obtain ⟨e3, e4⟩ := ret_some qa
  subst e3 e4
  refine ⟨g, ρ, k, x, _, R, q1, fun v g1 H1 n1 vr => ?_⟩
  obtain ⟨g2, n2, vf⟩ := n1.fz R vr
  exact c v g2 H1 n2 vf
theorem bop_one {op : BoolOp} {fa : Cm DV} (ha : PE X a (tV X.K F fa)) : PE X (.BoolOp op [a] pos) (tV X.K F (fa.bnd fun x => .ret x.fz)) := (pe_one ha).imp fun _ _ _ h => fz1_imp h
theorem bop_and {rest : List Expr} {fa fr : Cm DV} (ha : PE X a (tV X.K F fa)) (hr : PE X (.BoolOp .And (b :: rest) pos) (tV X.K F fr)) :
    PE X (.BoolOp .And (a :: b :: rest) pos) (tV X.K F (fa.bnd fun x => (Cm.lift (x.dat.bind truthD)).bnd fun b => if b == true then fr else .ret x.fz)) := by
  refine (pe_andT ha hr).imp fun σ H Q ⟨g, ρ, k, r, k', R, q, c⟩ => ?_
  obtain ⟨x, k1, q1, qa⟩ := bnd_some q
  obtain ⟨y, k2, q2, qb⟩ := bnd_some qa
  obtain ⟨q2', e2⟩ := lift_some q2
  subst e2
  obtain ⟨d, hd, ht⟩ := Option.bind_eq_some_iff.mp q2'
  refine ⟨g, ρ, k, x, _, R, q1, fun v g1 H1 n1 vr => ?_⟩
  obtain ⟨g2, n2, rd, _⟩ := n1.asData R vr hd
  refine ⟨y, truV (rd.mono n2.rel.sub) ht, ?_⟩
  cases y with
  | true =>
    rw [if_pos (by rfl)] at qb ⊢
    exact ⟨g2, ρ, _, r, k', n2.rel, qb, fun v' g3 H3 n3 vr3 => c v' g3 H3 (n2.trans n3) (vr3.of n2.dm)⟩
  | false =>
    rw [if_neg (by decide)] at qb ⊢
    obtain ⟨e3, e4⟩ := ret_some qb
    subst e3 e4
    obtain ⟨g2, n2, vf⟩ := n1.fz R vr
    exact c v g2 H1 n2 vf
theorem bop_or {rest : List Expr} {fa fr : Cm DV} (ha : PE X a (tV X.K F fa)) (hr : PE X (.BoolOp .Or (b :: rest) pos) (tV X.K F fr)) :
    PE X (.BoolOp .Or (a :: b :: rest) pos) (tV X.K F (fa.bnd fun x => (Cm.lift (x.dat.bind truthD)).bnd fun b => if b == false then fr else .ret x.fz)) := by
  refine (pe_orT ha hr).imp fun σ H Q ⟨g, ρ, k, r, k', R, q, c⟩ => ?_
  obtain ⟨x, k1, q1, qa⟩ := bnd_some q
  obtain ⟨y, k2, q2, qb⟩ := bnd_some qa
  obtain ⟨q2', e2⟩ := lift_some q2
  subst e2
  obtain ⟨d, hd, ht⟩ := Option.bind_eq_some_iff.mp q2'
  refine ⟨g, ρ, k, x, _, R, q1, fun v g1 H1 n1 vr => ?_⟩
  obtain ⟨g2, n2, rd, _⟩ := n1.asData R vr hd
  refine ⟨y, truV (rd.mono n2.rel.sub) ht, ?_⟩
  cases y with
  | false =>
    rw [if_pos (by rfl)] at qb
    rw [if_neg (by decide)]
    exact ⟨g2, ρ, _, r, k', n2.rel, qb, fun v' g3 H3 n3 vr3 => c v' g3 H3 (n2.trans n3) (vr3.of n2.dm)⟩
  | true =>
    rw [if_neg (by decide)] at qb
    rw [if_pos rfl]
    obtain ⟨e3, e4⟩ := ret_some qb
    subst e3 e4
    obtain ⟨g2, n2, vf⟩ := n1.fz R vr
    exact c v g2 H1 n2 vf
theorem bot_and {rest : List Expr} {fa fr : Cm Bool} (ha : PT X a (tT X.K F fa)) (hr : PW X (.BoolOp .And (b :: rest) pos) (tT X.K F fr)) :
    PW X (.BoolOp .And (a :: b :: rest) pos) (tT X.K F (fa.bnd fun b => if b == true then fr else .ret b)) := by
  refine (pw_and ha hr).imp fun σ H Q ⟨g, ρ, k, r, k', R, q, c⟩ => ?_
  obtain ⟨x, k1, q1, qa⟩ := bnd_some q
  refine ⟨g, ρ, k, x, _, R, q1, fun g1 H1 n1 => ?_⟩
  cases x with
  | true =>
    rw [if_pos (by rfl)] at qa ⊢
    exact ⟨g1, ρ, _, r, k', n1.rel, qa, fun g3 H3 n3 => c g3 H3 (n1.trans n3)⟩
  | false =>
    rw [if_neg (by decide)] at qa ⊢
    obtain ⟨e3, e4⟩ := ret_some qa
    subst e3 e4
    exact c g1 H1 n1
theorem bot_or {rest : List Expr} {fa fr : Cm Bool} (ha : PT X a (tT X.K F fa)) (hr : PW X (.BoolOp .Or (b :: rest) pos) (tT X.K F fr)) :
    PW X (.BoolOp .Or (a :: b :: rest) pos) (tT X.K F (fa.bnd fun b => if b == false then fr else .ret b)) := by
  refine (pw_or ha hr).imp fun σ H Q ⟨g, ρ, k, r, k', R, q, c⟩ => ?_
  obtain ⟨x, k1, q1, qa⟩ := bnd_some q
  refine ⟨g, ρ, k, x, _, R, q1, fun g1 H1 n1 => ?_⟩
  cases x with
  | false =>
    rw [if_pos (by rfl)] at qa
    rw [if_neg (by decide)]
    exact ⟨g1, ρ, _, r, k', n1.rel, qa, fun g3 H3 n3 => c g3 H3 (n1.trans n3)⟩
  | true =>
    rw [if_neg (by decide)] at qa
    rw [if_pos rfl]
    obtain ⟨e3, e4⟩ := ret_some qa
    subst e3 e4
    exact c g1 H1 n1
/-- a if t else b -/
theorem pv_ife {t : Expr} {ft : Cm Bool} {fa fb : Cm DV} (ht : PT X t (tT X.K F ft)) (ha : PE X a (tV X.K F fa)) (hb : PE X b (tV X.K F fb)) : PE X (.IfExp t a b pos) (tV X.K F (ft.bnd fun c => if c then fa else fb)) := by
  refine (pe_ifExp ht ha hb).imp fun σ H Q ⟨g, ρ, k, r, k', R, q, c⟩ => ?_
  obtain ⟨x, k1, q1, qa⟩ := bnd_some q
  refine ⟨g, ρ, k, x, _, R, q1, fun g1 H1 n1 => ?_⟩
  cases x with
  | true =>
    rw [if_pos rfl] at qa ⊢
    exact ⟨g1, ρ, _, r, k', n1.rel, qa, fun v g3 H3 n3 vr => c v g3 H3 (n1.trans n3) (vr.of n1.dm)⟩
  | false =>
    rw [if_neg (by decide)] at qa ⊢
    exact ⟨g1, ρ, _, r, k', n1.rel, qa, fun v g3 H3 n3 vr => c v g3 H3 (n1.trans n3) (vr.of n1.dm)⟩
theorem pv_neg {fa : Cm PyData} (ha : PE X a (tO X.K F fa)) : PE X (.UnaryOp .USub a pos) (tV X.K F (fa.bnd fun x => .lift ((intD x).map fun i => .d (.int (-i))))) := by
  refine (pe_un un_neg ha).imp fun σ H Q ⟨g, ρ, k, r, k', R, q, c⟩ => ?_
  obtain ⟨x, k1, q1, qa⟩ := bnd_some q
  obtain ⟨q3, e3⟩ := lift_some qa
  subst e3
  obtain ⟨i, h1, h2⟩ := Option.map_eq_some_iff.mp q3
  subst h2
  refine ⟨g, ρ, k, x, _, R, q1, fun v g1 H1 n1 o1 => ?_⟩
  cases x with
  | int j =>
    cases h1
    exact ⟨_, o1.int, c _ g1 H1 n1 (Rd.int _)⟩
  | _ => cases h1
theorem atI_rd {K : PySem.W.Frag} {G : Hp} {vs : List V} {xs : List PyData} {i : Int} {d : PyData} (r : RdA K G vs xs) (h : atI xs i = some d) : ∃ v, atI vs i = some v ∧ Rd K G v d := by
  unfold atI at h ⊢
  rw [r.length]
  obtain ⟨j, h1, h2⟩ := Option.bind_eq_some_iff.mp h
  obtain ⟨v, h3, h4⟩ := r.get h2
  exact ⟨v, by rw [h1]; exact h3, h4⟩
theorem pv_idx {fa fb : Cm PyData} (ha : PE X a (tO X.K F fa)) (hb : PE X b (tO X.K F fb)) (hs : PlainIx b) : PE X (.Subscript a b pos) (tV X.K F (fa.bnd fun x => fb.bnd fun y => .lift ((idxD x y).map .d))) := by
  refine (pe_ix ix_seq ha hb hs).imp fun σ H Q ⟨g, ρ, k, r, k', R, q, c⟩ => ?_
  obtain ⟨x, k1, q1, qa⟩ := bnd_some q
  obtain ⟨y, k2, q2, qb⟩ := bnd_some qa
  obtain ⟨q3, e3⟩ := lift_some qb
  subst e3
  obtain ⟨d, h1, h2⟩ := Option.map_eq_some_iff.mp q3
  subst h2
  refine ⟨g, ρ, k, x, k1, R, q1, fun v g1 H1 n1 o1 => ⟨g1, ρ, k1, y, _, n1.rel, q2, fun w g2 H2 n2 o2 => ?_⟩⟩
  have o1' := o1.nxt n2
  have n := n1.trans n2
  unfold idxD at h1
  split at h1
  · cases o2.int
    obtain ⟨p, vs, rfl, h3, h4⟩ := o1'.list n2.rel
    obtain ⟨z, h5, h6⟩ := atI_rd h4 h1
    exact .inl ⟨p, vs, _, z, rfl, rfl, .inl h3, h5, c z g2 H2 n h6⟩
  · cases o2.int
    obtain ⟨p, vs, rfl, h3, h4⟩ := o1'.tuple n2.rel
    obtain ⟨z, h5, h6⟩ := atI_rd h4 h1
    exact .inr (.inl ⟨p, vs, _, z, rfl, rfl, h3, h5, c z g2 H2 n h6⟩)
  · cases o2.int
    cases o1'.str
    split at h1
    · rename_i hz
      obtain ⟨ch, h5, h6⟩ := Option.map_eq_some_iff.mp h1
      subst h6
      exact .inr (.inr ⟨_, _, ch, rfl, rfl, hz, h5, c _ g2 H2 n (Rd.str _)⟩)
    · cases h1
  · cases h1
/-- slices -/
def rSlD (K : PySem.W.Frag) (F : Fm) : V → Option Int → Option Int → Hp → VK → Prop := fun x lo hi H Q => ∃ g σ ρ k d r, Rel K F g H σ ρ k ∧ OpRd K g σ ρ x d ∧ slD d lo hi = some r ∧ ∀ v g' H', Nxt K F g H g' H' σ ρ k → VR K H g' H' v r → Q v H'
theorem cut_whole {xs : List PyData} {lo hi : Option Int} (h : HT.sIx xs.length 0 lo = 0 ∧ HT.sIx xs.length xs.length hi = xs.length) : cutL xs lo hi = xs := by
  unfold cutL
  rw [h.1, h.2]; simp
theorem sl_D : SlR X (rSlD X.K F) := by
  rintro pins s σ' H x v vl vu lo hi sl Q I rx hs pl pu ⟨g, σ, ρ, k, d, r, R, o, h, c⟩
  unfold slD at h
  split at h
  · cases h
    obtain ⟨a, vs, rfl, h3, h4⟩ := o.list R
    exact sl_list pins s σ' H _ v vl vu lo hi sl Q I rx hs pl pu ⟨a, vs, rfl, .inl h3, fun p hp => c _ g _ (R.layO hp) (R.ownNew hp (h4.cut lo hi))⟩
  · rename_i xs
    cases h
    have rd1 : Rd X.K g.G x (.tuple xs) := by
      rcases o with z | ⟨_, _, _, _, z⟩
      · exact z
      · cases z
    obtain ⟨a, vs, rfl, h3, h4⟩ := o.tuple R
    refine sl_tupA pins s σ' H _ v vl vu lo hi sl Q I rx hs pl pu ⟨a, vs, rfl, h3, fun hw => ?_, fun _ p hp => ?_⟩
    · rw [h4.length] at hw
      refine c _ g H (Nxt.refl R) ?_
      rw [cut_whole hw]; exact rd1
    · have n2 := R.layF (o := .tup (cutV vs lo hi)) hp
      exact c _ _ _ n2 (.tup (.inl (.inl upd_same)) ((h4.cut lo hi).mono n2.sub))
  · split at h
    · rename_i hz
      cases h
      cases o.str
      exact sl_str pins s σ' H _ v vl vu lo hi sl Q I rx hs pl pu ⟨_, rfl, hz, c _ g H (Nxt.refl R) (Rd.str _)⟩
    · cases h
  · cases h
variable {p2 : Pos}
theorem pv_slA {fa fb : Cm PyData} (ha : PE X a (tO X.K F fa)) (hb : PE X b (tO X.K F fb)) : PE X (.Subscript a (.Slice (some b) none none p2) pos) (tV X.K F (fa.bnd fun x => fb.bnd fun y => .lift ((intD y).bind fun i => slD x (some i) none))) := by
  refine (pe_slice (sl_D (F := F)) ha (po_some hb) po_none).imp fun σ H Q ⟨g, ρ, k, r, k', R, q, c⟩ => ?_
  obtain ⟨x, k1, q1, qa⟩ := bnd_some q
  obtain ⟨y, k2, q2, qb⟩ := bnd_some qa
  obtain ⟨q3, e3⟩ := lift_some qb
  subst e3
  obtain ⟨i, h1, h2⟩ := Option.bind_eq_some_iff.mp q3
  refine ⟨g, ρ, k, x, k1, R, q1, fun v g1 H1 n1 o1 => ⟨g1, ρ, k1, y, _, n1.rel, q2, fun w g2 H2 n2 o2 => ?_⟩⟩
  cases y with
  | int j =>
    cases h1
    exact ⟨_, o2.int, g2, σ, ρ, _, x, r, n2.rel, o1.nxt n2, h2, fun z g3 H3 n3 vr => c z g3 H3 ((n1.trans n2).trans n3) (vr.of (n1.trans n2).dm)⟩
  | _ => cases h1
theorem pv_slB {fa fb : Cm PyData} (ha : PE X a (tO X.K F fa)) (hb : PE X b (tO X.K F fb)) : PE X (.Subscript a (.Slice none (some b) none p2) pos) (tV X.K F (fa.bnd fun x => fb.bnd fun y => .lift ((intD y).bind fun i => slD x none (some i)))) := by
  refine (pe_slice (sl_D (F := F)) ha po_none (po_some hb)).imp fun σ H Q ⟨g, ρ, k, r, k', R, q, c⟩ => ?_
  obtain ⟨x, k1, q1, qa⟩ := bnd_some q
  obtain ⟨y, k2, q2, qb⟩ := bnd_some qa
  obtain ⟨q3, e3⟩ := lift_some qb
  subst e3
  obtain ⟨i, h1, h2⟩ := Option.bind_eq_some_iff.mp q3
  refine ⟨g, ρ, k, x, k1, R, q1, fun v g1 H1 n1 o1 => ⟨g1, ρ, k1, y, _, n1.rel, q2, fun w g2 H2 n2 o2 => ?_⟩⟩
  cases y with
  | int j =>
    cases h1
    exact ⟨_, o2.int, g2, σ, ρ, _, x, r, n2.rel, o1.nxt n2, h2, fun z g3 H3 n3 vr => c z g3 H3 ((n1.trans n2).trans n3) (vr.of (n1.trans n2).dm)⟩
  | _ => cases h1
theorem pv_slAB {cx : Expr} {fa fb fc : Cm PyData} (ha : PE X a (tO X.K F fa)) (hb : PE X b (tO X.K F fb)) (hc : PE X cx (tO X.K F fc)) :
    PE X (.Subscript a (.Slice (some b) (some cx) none p2) pos) (tV X.K F (fa.bnd fun x => fb.bnd fun y => (Cm.lift (intD y)).bnd fun i => fc.bnd fun z => .lift ((intD z).bind fun j => slD x (some i) (some j)))) := by
  refine (pe_slice (sl_D (F := F)) ha (po_some hb) (po_some hc)).imp fun σ H Q ⟨g, ρ, k, r, k', R, q, c⟩ => ?_
  obtain ⟨x, k1, q1, qa⟩ := bnd_some q
  obtain ⟨y, k2, q2, qb⟩ := bnd_some qa
  obtain ⟨i, k3, q3, qc⟩ := bnd_some qb
  obtain ⟨h1, e3⟩ := lift_some q3
  subst e3
  obtain ⟨z, k4, q4, qd⟩ := bnd_some qc
  obtain ⟨q5, e4⟩ := lift_some qd
  subst e4
  obtain ⟨j, h2, h3⟩ := Option.bind_eq_some_iff.mp q5
  refine ⟨g, ρ, k, x, k1, R, q1, fun v g1 H1 n1 o1 => ⟨g1, ρ, k1, y, _, n1.rel, q2, fun w g2 H2 n2 o2 => ?_⟩⟩
  cases y with
  | int i' =>
    cases h1
    refine ⟨_, o2.int, g2, ρ, _, z, _, n2.rel, q4, fun w' g3 H3 n3 o3 => ?_⟩
    cases z with
    | int j' =>
      cases h2
      exact ⟨_, o3.int, g3, σ, ρ, _, x, r, n3.rel, (o1.nxt n2).nxt n3, h3, fun u g4 H4 n4 vr => c u g4 H4 (((n1.trans n2).trans n3).trans n4) (vr.of ((n1.trans n2).trans n3).dm)⟩
    | _ => cases h2
  | _ => cases h1
end
end TA

set_option maxHeartbeats 4000000
/-! Built-ins by data. -/
namespace TA
open PySem PySem.Spec PyProof.Rows L2

/-- nothing that is tracked is sys.modules -/
def SysOk (X : Cx) : Prop := ∃ o, X.base.get? sysModules = some o
section
variable {X : Cx} {pins : List (Addr × Obj)} {σ : L2.St} {H : Hp} {s : Shared}
theorem notSys (hs : SysOk X) (I : Inv X pins σ H s) {a : Addr} {o : HO} (h : H a = some o) : a ≠ sysModules := by
  rintro rfl
  obtain ⟨ob, e⟩ := hs
  have := (I.bs _ _ e).2
  rw [h] at this; cases this
theorem keyRel {k : L2.Key} {v : Value} (h : keyIs k v = true) : RelV (kV k) v := by
  rcases keyIs_shape h with ⟨i, t, rfl, rfl⟩ | ⟨x, t, rfl, rfl⟩
  · exact ⟨t, rfl⟩
  · exact ⟨t, rfl⟩
theorem keys_reads {h : Heap} : ∀ {es : List DictEntry} {kvs : List (L2.Key × V)} {vs : List (L2.Key × Value)} {ds : List (PyData × PyData)}, RdK X.K H kvs ds → KV kvs vs → Pairs (mixKind X.prog X.w) es vs → ReadsAll h (es.map (·.key)) (ds.map (·.1)) []
  | _, _, _, _, .nil, .nil, .nil => ReadsAll.nil
  | _, _, _, _, .cons (k := k) q r, .cons p ps, .cons (e := en) ik _ t => by
    obtain ⟨e1, _⟩ := p
    have ih := keys_reads (h := h) r ps t
    have r0 : Reads h en.key (keyD k) [] := by
      rw [show (mixKind X.prog X.w).is = keyIs from rfl, ← e1] at ik
      rcases keyIs_shape ik with ⟨i, t, e2, e3⟩ | ⟨x, t, e2, e3⟩
      · simp only at e2; subst e2; rw [e3]; exact Reads.int i t
      · simp only at e2; subst e2; rw [e3]; exact Reads.str x t
    simpa using ReadsAll.cons r0 ih
mutual
theorem Rd.reads (hs : SysOk X) (I : Inv X pins σ H s) : ∀ (d : PyData) (v : V) (u : Value), Rd X.K H v d → RelV v u → ∃ as, Reads s.heap u d as ∧ sysModules ∉ as
  | .none, _, _, h, r => by
    cases h
    cases r
    exact ⟨_, Reads.none, by simp⟩
  | .bool b, _, _, h, r => by
    cases h
    cases r
    exact ⟨_, Reads.bool b, by simp⟩
  | .int i, _, _, h, r => by
    cases h
    obtain ⟨t, rfl⟩ := r
    exact ⟨_, Reads.int i t, by simp⟩
  | .str x, _, _, h, r => by
    cases h
    obtain ⟨t, rfl⟩ := r
    exact ⟨_, Reads.str x t, by simp⟩
  | .list ds, _, _, h, r => by
    cases h with
    | lst q ha =>
      cases r
      have hne : ∀ {a : Addr} {u : HO}, L2.Rd H a u → a ≠ sysModules := fun z => by
        rcases z with z | ⟨o, z⟩
        · exact notSys hs I z
        · exact notSys hs I z
      obtain ⟨_, its, n, rv, e⟩ := q.ok I.hok
      obtain ⟨as, hr, hn⟩ := RdA.reads hs I ds _ its ha rv
      refine ⟨_, Reads.list e rfl rfl (by simpa using hr), ?_⟩
      simp only [List.mem_cons, not_or]
      exact ⟨fun z => hne q z.symm, hn⟩
  | .tuple ds, _, _, h, r => by
    cases h with
    | tup q ha =>
      cases r
      obtain ⟨its, rv, ⟨o, ho, hc, n, hd⟩, _⟩ := I.tuple q
      obtain ⟨as, hr, hn⟩ := RdA.reads hs I ds _ its ha rv
      exact ⟨_, Reads.tuple ho hc hd hr, hn⟩
  | .dict es, _, _, h, r => by
    cases h with
    | dic q ha =>
      cases r
      obtain ⟨_, _, vs, rv, o, ens, ep, ho, hx, hd, _, hp, _⟩ := I.hok _ _ q
      obtain ⟨as, hr, hn⟩ := RdK.reads hs I es _ _ _ ha rv hp
      refine ⟨_, Reads.dict ho hx.1 hd (keys_reads (h := s.heap) ha rv hp) hr, ?_⟩
      simp only [List.append_nil, List.cons_append, List.mem_cons, List.nil_append, not_or]
      exact ⟨fun z => notSys hs I q z.symm, hn⟩
theorem RdA.reads (hs : SysOk X) (I : Inv X pins σ H s) : ∀ (ds : List PyData) (vs : List V) (us : List Value), RdA X.K H vs ds → Vals vs us → ∃ as, ReadsAll s.heap us ds as ∧ sysModules ∉ as
  | [], _, _, h, r => by
    cases h
    cases r
    exact ⟨_, ReadsAll.nil, by simp⟩
  | d :: ds, _, _, h, r => by
    cases h with
    | cons h1 h2 =>
      cases r with
      | cons r1 r2 =>
        obtain ⟨as, q1, n1⟩ := Rd.reads hs I d _ _ h1 r1
        obtain ⟨bs, q2, n2⟩ := RdA.reads hs I ds _ _ h2 r2
        exact ⟨_, ReadsAll.cons q1 q2, by simp only [List.mem_append, not_or]; exact ⟨n1, n2⟩⟩
theorem RdK.reads (hs : SysOk X) (I : Inv X pins σ H s) : ∀ (es : List (PyData × PyData)) (kvs : List (L2.Key × V)) (vs : List (L2.Key × Value)) (ens : List DictEntry), RdK X.K H kvs es → KV kvs vs → Pairs (mixKind X.prog X.w) ens vs →
    ∃ as, ReadsAll s.heap (ens.map (·.val)) (es.map (·.2)) as ∧ sysModules ∉ as
  | [], _, _, _, h, r, p => by
    cases h
    cases r
    cases p
    exact ⟨_, ReadsAll.nil, by simp⟩
  | (k, d) :: es, _, _, _, h, r, p => by
    cases h with
    | cons h1 h2 =>
      cases r with
      | cons r1 r2 =>
        cases p with
        | cons p1 p2 p3 =>
          obtain ⟨as, q1, n1⟩ := Rd.reads hs I d _ _ h1 r1.2
          obtain ⟨bs, q2, n2⟩ := RdK.reads hs I es _ _ _ h2 r2 p3
          refine ⟨_, ReadsAll.cons (show Reads s.heap _ _ _ from by dsimp only; rw [p2]; exact q1) q2, by simp only [List.mem_append, not_or]; exact ⟨n1, n2⟩⟩
end
end

/-- operands in, a value out -/
def rB (K : PySem.W.Frag) (F : Fm) (f : List PyData → Option DV) : List V → Hp → VK → Prop := fun xs H Q => ∃ g σ ρ k ds r, Rel K F g H σ ρ k ∧ OpAll K g σ ρ xs ds ∧ f ds = some r ∧ ∀ v g' H', Nxt K F g H g' H' σ ρ k → VR K H g' H' v r → Q v H'
theorem opAll1 {K : PySem.W.Frag} {g : Gh} {σ : L2.St} {ρ : Env} {vs : List V} {d : PyData} (h : OpAll K g σ ρ vs [d]) : ∃ v, vs = [v] ∧ OpRd K g σ ρ v d := by
  cases vs with
  | nil => exact h.elim
  | cons v vs =>
    cases vs with
    | nil => exact ⟨v, rfl, h.1⟩
    | cons _ _ => exact h.2.elim
theorem opAll2 {K : PySem.W.Frag} {g : Gh} {σ : L2.St} {ρ : Env} {vs : List V} {d d' : PyData} (h : OpAll K g σ ρ vs [d, d']) : ∃ v v', vs = [v, v'] ∧ OpRd K g σ ρ v d ∧ OpRd K g σ ρ v' d' := by
  cases vs with
  | nil => exact h.elim
  | cons v vs =>
    obtain ⟨v', rfl, h2⟩ := opAll1 h.2
    exact ⟨v, v', rfl, h.1, h2⟩
/-- one operand in -/
def rB1 (K : PySem.W.Frag) (F : Fm) (f : PyData → Option DV) : List V → Hp → VK → Prop := fun xs H Q => ∃ g σ ρ k v d r, xs = [v] ∧ Rel K F g H σ ρ k ∧ OpRd K g σ ρ v d ∧ f d = some r ∧ ∀ v g' H', Nxt K F g H g' H' σ ρ k → VR K H g' H' v r → Q v H'
def rB2 (K : PySem.W.Frag) (F : Fm) (f : PyData → PyData → Option DV) : List V → Hp → VK → Prop := fun xs H Q => ∃ g σ ρ k v w d e r, xs = [v, w] ∧ Rel K F g H σ ρ k ∧ OpRd K g σ ρ v d ∧ OpRd K g σ ρ w e ∧ f d e = some r ∧ ∀ v g' H', Nxt K F g H g' H' σ ρ k → VR K H g' H' v r → Q v H'
section
variable {X : Cx} {F : Fm}
theorem RdK.length {K : PySem.W.Frag} {G : Hp} : ∀ (es : List (PyData × PyData)) (kvs : List (L2.Key × V)), RdK K G kvs es → kvs.length = es.length
  | [], _, h => by cases h; rfl
  | _ :: es, _, h => by
    cases h with
    | cons _ r => rw [List.length_cons, List.length_cons, RdK.length es _ r]
theorem call_lenX : CallR X (.builtin "len") (rB1 X.K F lenB) := by
  rintro pins s σ' H xs us Q I r ⟨g, σ, ρ, k, v, d, z, rfl, R, o1, h, c⟩
  obtain ⟨n, h1, h2⟩ := Option.map_eq_some_iff.mp h
  subst h2
  have fin : ∀ m : Int, m = n → Q (.int m) H := fun m e => c _ g H (Nxt.refl R) (by rw [e]; exact Rd.int n)
  unfold lenD at h1
  split at h1
  · split at h1
    · rename_i hz
      cases h1
      cases o1.str
      exact call_len pins s σ' H _ us Q I r ⟨_, _, rfl, ⟨hz, rfl⟩, fin _ rfl⟩
    · cases h1
  · cases h1
    obtain ⟨a, vs, rfl, h3, h4⟩ := o1.list R
    exact call_len pins s σ' H _ us Q I r ⟨_, _, rfl, .inl ⟨_, .inl h3, rfl⟩, fin _ (by rw [h4.length])⟩
  · cases h1
    obtain ⟨a, vs, rfl, h3, h4⟩ := o1.tuple R
    exact call_len pins s σ' H _ us Q I r ⟨_, _, rfl, .inr ⟨_, h3, rfl⟩, fin _ (by rw [h4.length])⟩
  · cases h1
    obtain ⟨a, kvs, rfl, h3, h4⟩ := o1.dict R
    exact call_lenD pins s σ' H _ us Q I r ⟨_, _, rfl, h3, fin _ (by rw [h4.length])⟩
  · cases h1
theorem repOk_iff {a : PyData} (h : repOk a = true) : a.showable = true ∧ a.shown.length ≤ sizeLine ∧ a.depth ≤ 100 := by
  unfold repOk at h
  rw [Bool.and_eq_true, Bool.and_eq_true] at h
  exact ⟨h.1.1, of_decide_eq_true h.1.2, of_decide_eq_true h.2⟩
theorem call_reprX (hs : SysOk X) (hg : X.A.guards = some []) (hu : X.A.units + 101 < cLine) : CallR X (.builtin "repr") (rB1 X.K F repB) := by
  rintro pins s σ' H xs us Q I r ⟨g, σ, ρ, k, v, d, z, rfl, R, o1, h, c⟩
  unfold repB at h
  split at h
  · rename_i ok
    cases h
    obtain ⟨sh, sz, dp⟩ := repOk_iff ok
    have fin : Q (.str d.shown) H := c _ g H (Nxt.refl R) (Rd.str _)
    have w := o1.whole R
    obtain ⟨u, rfl, rv⟩ := vals1 r
    obtain ⟨as, rds, nm⟩ := Rd.reads hs I d v u w rv
    have atRef : ∀ a, u = .ref a → wpAny (model X.prog X.w) X.A (call (.builtin "repr") [u]) (EP X pins σ' Q) X.xe s := fun a e => by
      subst e
      exact repr_of_reads' rds sh (fun _ => nm) hg (by omega) (fun _ _ z => z) (fun h' u tk kk => ⟨.str d.shown, H, I.kept kk, ⟨_, rfl⟩, fin⟩) sz
    cases rds with
    | none => exact PySem.P.repr_of_none ⟨.str _, H, I.tok _, ⟨_, rfl⟩, fin⟩
    | bool b => exact PySem.P.repr_of_bool ⟨.str _, H, I.tok _, ⟨_, rfl⟩, fin⟩
    | int i t => exact PySem.P.repr_of_int (by simpa [PyData.showable] using sh) ⟨.str _, H, I.tok _, ⟨_, rfl⟩, fin⟩
    | str x t => exact PySem.P.repr_of_str ⟨.str _, H, I.tok _, ⟨_, rfl⟩, fin⟩ (by simpa [PyData.shown] using sz)
    | list _ _ _ _ => exact atRef _ rfl
    | tuple _ _ _ _ => exact atRef _ rfl
    | dict _ _ _ _ _ => exact atRef _ rfl
  · cases h
theorem call_intX : CallR X (.type "int") (rB1 X.K F intB) := by
  rintro pins s σ' H xs us Q I r ⟨g, σ, ρ, k, v, d, z, rfl, R, o1, h, c⟩
  unfold intB at h
  split at h
  · cases h
    cases o1.bool
    exact call_int1 pins s σ' H _ us Q I r (.inr ⟨_, rfl, c _ g H (Nxt.refl R) (Rd.int _)⟩)
  · cases h
    cases o1.int
    exact call_int1 pins s σ' H _ us Q I r (.inl ⟨_, rfl, c _ g H (Nxt.refl R) (Rd.int _)⟩)
  · cases h
theorem call_absX : CallR X (.builtin "abs") (rB1 X.K F absB) := by
  rintro pins s σ' H xs us Q I r ⟨g, σ, ρ, k, v, d, z, rfl, R, o1, h, c⟩
  unfold absB at h
  split at h
  · cases h
    cases o1.int
    exact call_abs pins s σ' H _ us Q I r ⟨_, rfl, c _ g H (Nxt.refl R) (Rd.int _)⟩
  · cases h
theorem call_tupleX : CallR X (.type "tuple") (rB1 X.K F tupleB) := by
  rintro pins s σ' H xs us Q I r ⟨g, σ, ρ, k, v, d, z, rfl, R, o1, h, c⟩
  unfold tupleB at h
  split at h
  · cases h
    obtain ⟨a, vs, rfl, h3, h4⟩ := o1.list R
    refine call_tuple_of pins s σ' H _ us Q I r ⟨_, _, rfl, .inl ⟨.inl h3, fun p hp => ?_⟩⟩
    have n2 := R.layF (o := .tup vs) hp
    exact c _ _ _ n2 (.tup (.inl (.inl upd_same)) (h4.mono n2.sub))
  · cases h
    rename_i ys
    have rd1 : Rd X.K g.G v (.tuple ys) := by
      rcases o1 with z | ⟨_, _, _, _, z⟩
      · exact z
      · cases z
    obtain ⟨a, vs, rfl, h3, h4⟩ := o1.tuple R
    exact call_tuple_of pins s σ' H _ us Q I r ⟨_, _, rfl, .inr ⟨h3, c _ g H (Nxt.refl R) rd1⟩⟩
  · cases h
theorem call_listX : CallR X (.type "list") (rB1 X.K F listB) := by
  rintro pins s σ' H xs us Q I r ⟨g, σ, ρ, k, v, d, z, rfl, R, o1, h, c⟩
  unfold listB at h
  split at h
  · cases h
    obtain ⟨a, vs, rfl, h3, h4⟩ := o1.list R
    exact call_list_of pins s σ' H _ us Q I r ⟨_, _, rfl, .inl (.inl h3), fun p hp => c _ g _ (R.layO hp) (R.ownNew hp h4)⟩
  · cases h
    obtain ⟨a, vs, rfl, h3, h4⟩ := o1.tuple R
    exact call_list_of pins s σ' H _ us Q I r ⟨_, _, rfl, .inr h3, fun p hp => c _ g _ (R.layO hp) (R.ownNew hp h4)⟩
  · cases h
theorem call_allX (hc : X.calm = true) : CallR X (.builtin "all") (rB1 X.K F allB) := by
  rintro pins s σ' H xs us Q I r ⟨g, σ, ρ, k, v, d, z, rfl, R, o1, h, c⟩
  unfold allB at h
  split at h
  · obtain ⟨bs, h1, h2⟩ := Option.map_eq_some_iff.mp h
    subst h2
    obtain ⟨a, vs, rfl, h3, h4⟩ := o1.list R
    rw [h4.bools h1] at h3
    exact cr_all hc pins s σ' H _ us Q I r ⟨_, _, rfl, .inl h3, c _ g H (Nxt.refl R) (Rd.bl _)⟩
  · cases h
theorem call_anyX (hc : X.calm = true) : CallR X (.builtin "any") (rB1 X.K F anyB) := by
  rintro pins s σ' H xs us Q I r ⟨g, σ, ρ, k, v, d, z, rfl, R, o1, h, c⟩
  unfold anyB at h
  split at h
  · obtain ⟨bs, h1, h2⟩ := Option.map_eq_some_iff.mp h
    subst h2
    obtain ⟨a, vs, rfl, h3, h4⟩ := o1.list R
    rw [h4.bools h1] at h3
    exact cr_any hc pins s σ' H _ us Q I r ⟨_, _, rfl, .inl h3, c _ g H (Nxt.refl R) (Rd.bl _)⟩
  · cases h
theorem call_sumX (hc : X.calm = true) : CallR X (.builtin "sum") (rB1 X.K F sumB) := by
  rintro pins s σ' H xs us Q I r ⟨g, σ, ρ, k, v, d, z, rfl, R, o1, h, c⟩
  unfold sumB at h
  split at h
  · obtain ⟨bs, h1, h2⟩ := Option.map_eq_some_iff.mp h
    subst h2
    obtain ⟨a, vs, rfl, h3, h4⟩ := o1.list R
    rw [h4.ints h1] at h3
    exact cr_sum hc pins s σ' H _ us Q I r ⟨_, _, rfl, .inl h3, c _ g H (Nxt.refl R) (Rd.int _)⟩
  · cases h
theorem call_maxX (hc : X.calm = true) : CallR X (.builtin "max") (rB2 X.K F maxB) := by
  rintro pins s σ' H xs us Q I r ⟨g, σ, ρ, k, v, w, d, e, z, rfl, R, o1, o2, h, c⟩
  unfold maxB at h
  split at h
  · cases h
    cases o1.int; cases o2.int
    exact call_max2 hc pins s σ' H _ us Q I r ⟨_, _, rfl, c _ g H (Nxt.refl R) (Rd.int _)⟩
  · cases h
theorem call_minX (hc : X.calm = true) : CallR X (.builtin "min") (rB2 X.K F minB) := by
  rintro pins s σ' H xs us Q I r ⟨g, σ, ρ, k, v, w, d, e, z, rfl, R, o1, o2, h, c⟩
  unfold minB at h
  split at h
  · cases h
    cases o1.int; cases o2.int
    exact call_min2 hc pins s σ' H _ us Q I r ⟨_, _, rfl, c _ g H (Nxt.refl R) (Rd.int _)⟩
  · cases h
def B.val : B → Value
  | .len => .builtin "len"
  | .repr => .builtin "repr"
  | .int => .type "int"
  | .abs => .builtin "abs"
  | .tuple => .type "tuple"
  | .list => .type "list"
  | .all => .builtin "all"
  | .any => .builtin "any"
  | .sum => .builtin "sum"
  | .max => .builtin "max"
  | .min => .builtin "min"
theorem rB_one {f : B} {r : List V → Hp → VK → Prop} (h : CallR X f.val (rB1 X.K F (blt1 f))) (h2 : ∀ x y, blt2 f x y = none) : CallR X f.val (rB X.K F (bltD f)) := by
  rintro pins s σ' H xs us Q I rr ⟨g, σ, ρ, k, ds, z, R, o, e, c⟩
  unfold bltD at e
  split at e
  · obtain ⟨v, rfl, o1⟩ := opAll1 o
    exact h pins s σ' H _ us Q I rr ⟨g, σ, ρ, k, v, _, z, rfl, R, o1, e, c⟩
  · rw [h2] at e; cases e
  · cases e
theorem rB_two {f : B} {r : List V → Hp → VK → Prop} (h : CallR X f.val (rB2 X.K F (blt2 f))) (h2 : ∀ x, blt1 f x = none) : CallR X f.val (rB X.K F (bltD f)) := by
  rintro pins s σ' H xs us Q I rr ⟨g, σ, ρ, k, ds, z, R, o, e, c⟩
  unfold bltD at e
  split at e
  · rw [h2] at e; cases e
  · obtain ⟨v, w, rfl, o1, o2⟩ := opAll2 o
    exact h pins s σ' H _ us Q I rr ⟨g, σ, ρ, k, v, w, _, _, z, rfl, R, o1, o2, e, c⟩
  · cases e
/-- all of them -/
theorem call_blt (hc : X.calm = true) (hs : SysOk X) (hg : X.A.guards = some []) (hu : X.A.units + 101 < cLine) (f : B) : CallR X f.val (rB X.K F (bltD f)) := by
  cases f
  · exact rB_one (r := rB X.K F (bltD .len)) call_lenX fun _ _ => rfl
  · exact rB_one (r := rB X.K F (bltD .len)) (call_reprX hs hg hu) fun _ _ => rfl
  · exact rB_one (r := rB X.K F (bltD .len)) call_intX fun _ _ => rfl
  · exact rB_one (r := rB X.K F (bltD .len)) call_absX fun _ _ => rfl
  · exact rB_one (r := rB X.K F (bltD .len)) call_tupleX fun _ _ => rfl
  · exact rB_one (r := rB X.K F (bltD .len)) call_listX fun _ _ => rfl
  · exact rB_one (r := rB X.K F (bltD .len)) (call_allX hc) fun _ _ => rfl
  · exact rB_one (r := rB X.K F (bltD .len)) (call_anyX hc) fun _ _ => rfl
  · exact rB_one (r := rB X.K F (bltD .len)) (call_sumX hc) fun _ _ => rfl
  · exact rB_two (r := rB X.K F (bltD .len)) (call_maxX hc) fun _ => rfl
  · exact rB_two (r := rB X.K F (bltD .len)) (call_minX hc) fun _ => rfl
end
end TA

set_option maxHeartbeats 4000000
/-! Built-ins called by name, isinstance, texts, dicts, the deck. -/
namespace TA
open PySem PySem.Spec PyProof.Rows L2

def B.name : B → Str
  | .len => "len"
  | .repr => "repr"
  | .int => "int"
  | .abs => "abs"
  | .tuple => "tuple"
  | .list => "list"
  | .all => "all"
  | .any => "any"
  | .sum => "sum"
  | .max => "max"
  | .min => "min"
theorem B.kind (f : B) : (∃ id, f.val = .builtin id) ∨ ∃ T, f.val = .type T := by
  cases f <;> first | exact .inl ⟨_, rfl⟩ | exact .inr ⟨_, rfl⟩
theorem B.boot (f : B) : bootBuiltins f.name = some f.val := by cases f <;> decide +kernel
theorem B.notName (f : B) : f.name ≠ "__name__" := by cases f <;> decide +kernel
theorem B.notDebug (f : B) : (f.name == ("__debug__" : Str)) = false := by cases f <;> decide +kernel
def Ty.name : Ty → String
  | .int => "int"
  | .str => "str"
  | .bool => "bool"
  | .tuple => "tuple"
  | .list => "list"
  | .dict => "dict"
def Ty.sname (t : Ty) : Str := Str.ofString t.name
theorem Ty.boot (t : Ty) : bootBuiltins t.sname = some (.type t.name) := by cases t <;> decide +kernel
theorem Ty.notName (t : Ty) : t.sname ≠ "__name__" := by cases t <;> decide +kernel
theorem Ty.notDebug (t : Ty) : (t.sname == ("__debug__" : Str)) = false := by cases t <;> decide +kernel
def tyName : PyData → String
  | .none => "NoneType"
  | .bool _ => "bool"
  | .int _ => "int"
  | .str _ => "str"
  | .list _ => "list"
  | .tuple _ => "tuple"
  | .dict _ => "dict"
theorem kit_is (d : PyData) (t : Ty) : kitB (tyName d) t.name = some (isTy d t) := by
  cases d <;> cases t <;> (first | decide +kernel | (simp only [tyName, isTy, Ty.name]; decide +kernel))

section
variable {X : Cx} {F : Fm} {e a b : Expr} {pos : Pos}
theorem imp_blt {f : Cm (List PyData)} {g : List PyData → Option DV} {σ : L2.St} {H : Hp} {Q : VK} (h : tV X.K F (f.bnd fun xs => .lift (g xs)) σ H Q) : tCB (rB X.K F g) (tOs X.K F f) σ H Q := by
  obtain ⟨g0, ρ, k, r, k', R, q, c⟩ := h
  obtain ⟨x, k1, q1, qa⟩ := bnd_some q
  obtain ⟨q3, e3⟩ := lift_some qa
  subst e3
  exact ⟨g0, ρ, k, x, _, R, q1, fun vs g1 H1 n1 o1 => ⟨g1, σ, ρ, _, x, r, n1.rel, o1, q3, fun v g2 H2 n2 vr => c v g2 H2 (n1.trans n2) (vr.of n1.dm)⟩⟩
theorem pv_blt (hc : X.calm = true) (hs : SysOk X) (hgd : X.A.guards = some []) (hu : X.A.units + 101 < cLine) {f : B} {es : List Expr} {p : Pos} {fa : Cm (List PyData)} (hg : Gl X f.name) (hm : X.mg f.name = none)
    (ha : PA X (e :: es) (tOs X.K F fa)) (he : NoStar X e es) (hpl : (backTo pos (starEach es X.env)).any (·.1) = false) : PE X (.Call (.Name f.name p) (e :: es) [] pos) (tV X.K F (fa.bnd fun xs => .lift (bltD f xs))) := by
  have hb := call_blt (F := F) hc hs hgd hu f
  have b1 := f.boot
  rcases f.kind with ⟨id, e⟩ | ⟨T, e⟩
  · rw [e] at hb b1
    exact (pe_callB hb hg hm b1 ha f.notName f.notDebug he hpl).imp fun σ H Q h => imp_blt h
  · rw [e] at hb b1
    exact (pe_callTy hb hg hm b1 ha f.notName f.notDebug he hpl).imp fun σ H Q h => imp_blt h
theorem rd_ty {K : PySem.W.Frag} {H : Hp} {v : V} {d : PyData} (h : Rd K H v d) : TyX K H v (.type (tyName d)) := by
  cases h with
  | non => exact .base .non
  | bl b => exact .base (.bl b)
  | int i => exact .base (.int i)
  | str x => exact .base (.str x)
  | lst q _ =>
    rcases q with q | ⟨o, q⟩
    · exact .base (.lst q)
    · exact .base (.frz q)
  | tup q _ =>
    rcases q with (q | ⟨o, q⟩) | ⟨o, its, n, q, hc, _⟩
    · exact .base (.tup q)
    · exact .fTuple q
    · exact .kTuple q hc
  | dic q _ => exact .base (.dK q)
theorem po_isi {t : Ty} {p p' : Pos} {fa : Cm PyData} (ha : PE X a (tO X.K F fa)) (hg : Gl X "isinstance") (hm : X.mg "isinstance" = none) (hg2 : Gl X t.sname) (hm2 : X.mg t.sname = none)
    (he : NoStar X a [.Name t.sname p']) (he2 : NoStar X (.Name t.sname p') []) (hpl : (backTo pos (starEach [.Name t.sname p'] X.env)).any (·.1) = false) :
    PE X (.Call (.Name "isinstance" p) [a, .Name t.sname p'] [] pos) (tO X.K F ((fa.bnd fun x => .ret ([t].any (isTy x))).bnd fun b => .ret (.bool b))) := by
  refine (pe_callB call_isi hg hm (by decide +kernel) (pa_cons ha (pa_cons (pe_bltn (v := .ty t.name) hg2 hm2 t.boot rfl t.notName t.notDebug) pa_nil he2) he) (by decide) (by decide) he hpl).imp fun σ H Q ⟨g, ρ, k, r, k', R, q, c⟩ => ?_
  obtain ⟨z, k3, q0, qz⟩ := bnd_some q
  obtain ⟨x, k1, q1, qa⟩ := bnd_some q0
  obtain ⟨e3, e4⟩ := ret_some qa
  obtain ⟨e5, e6⟩ := ret_some qz
  subst e3 e4 e5 e6
  refine ⟨g, ρ, k, x, _, R, q1, fun v g1 H1 n1 o1 => ⟨v, .ty t.name, _, _, _, rfl, .ty _, rd_ty (o1.whole n1.rel), kit_ty (kit_is x t), c _ g1 H1 n1 (.inl ?_)⟩⟩
  have e : [t].any (isTy x) = isTy x t := by simp
  rw [e]
  exact Rd.bl _
theorem pv_revL {fa : Cm PyData} {j : Nat} {p1 p2 p3 : Pos} (ha : PE X a (tO X.K F fa)) : PE X (.Subscript a (.Slice none none (some (.UnaryOp .USub (.Constant (.int 1) j p1) p2)) p3) pos)
    (tV X.K F (fa.bnd fun x => .lift (match x with | .list xs => some (.own xs.reverse) | _ => none))) := by
  refine (pe_revL ha).imp fun σ H Q ⟨g, ρ, k, r, k', R, q, c⟩ => ?_
  obtain ⟨x, k1, q1, qa⟩ := bnd_some q
  obtain ⟨q3, e3⟩ := lift_some qa
  subst e3
  refine ⟨g, ρ, k, x, _, R, q1, fun v g1 H1 n1 o1 => ?_⟩
  cases x with
  | list xs =>
    cases q3
    obtain ⟨p, vs, rfl, h3, h4⟩ := o1.list n1.rel
    exact ⟨p, vs, rfl, .inl h3, fun p hp => c _ g1 _ (n1.trans (n1.rel.layO hp)) ((n1.rel.ownNew hp h4.rev).of n1.dm)⟩
  | _ => cases q3
theorem pv_join {fa fb : Cm PyData} {ap : Pos} (ha : PE X a (tO X.K F fa)) (hb : PE X b (tO X.K F fb)) (hs : starEach [b] X.env = [(false, eval b X.env)]) (hbase : attributeBase a "join" X.env (eval a X.env) = eval a X.env) (hline : (ap.endLine == pos.line) = true) :
    PE X (.Call (.Attribute a "join" ap) [b] [] pos) (tV X.K F (fa.bnd fun x => fb.bnd fun y => .lift (match x, y with
      | .str s, .list ds => (strsD ds).bind fun ys => if (ys.map (·.length)).sum + ys.length * s.length ≤ 16777216 then some (.d (.str (Txt.join s ys))) else none
      | _, _ => none))) := by
  refine (pe_join ha hb hs hbase hline).imp fun σ H Q ⟨g, ρ, k, r, k', R, q, c⟩ => ?_
  obtain ⟨x, k1, q1, qa⟩ := bnd_some q
  obtain ⟨y, k2, q2, qb⟩ := bnd_some qa
  obtain ⟨q3, e3⟩ := lift_some qb
  subst e3
  split at q3
  · rename_i s ds
    obtain ⟨ys, h1, h2⟩ := Option.bind_eq_some_iff.mp q3
    split at h2
    · rename_i hz
      cases h2
      refine ⟨g, ρ, k, _, _, R, q1, fun v g1 H1 n1 o1 => ⟨⟨_, o1.str⟩, g1, ρ, _, _, _, n1.rel, q2, fun w g2 H2 n2 o2 => ?_⟩⟩
      obtain ⟨p, vs, rfl, h3, h4⟩ := o2.list n2.rel
      rw [h4.strs h1] at h3
      exact ⟨s, p, ys, o1.str, rfl, .inl (.inl h3), hz, c _ g2 H2 (n1.trans n2) (Rd.str _)⟩
    · cases h2
  · cases q3
theorem pv_split {fa fb : Cm PyData} {ap : Pos} (ha : PE X a (tO X.K F fa)) (hb : PE X b (tO X.K F fb)) (hs : starEach [b] X.env = [(false, eval b X.env)]) (hbase : attributeBase a "split" X.env (eval a X.env) = eval a X.env) (hline : (ap.endLine == pos.line) = true) :
    PE X (.Call (.Attribute a "split" ap) [b] [] pos) (tV X.K F (fa.bnd fun x => fb.bnd fun y => .lift (match x, y with
      | .str s, .str z => if (z.length == 0) = false ∧ s.length + 2 ≤ sizeLine then some (.own ((Txt.split s z).map .str)) else none
      | _, _ => none))) := by
  refine (pe_split ha hb hs hbase hline).imp fun σ H Q ⟨g, ρ, k, r, k', R, q, c⟩ => ?_
  obtain ⟨x, k1, q1, qa⟩ := bnd_some q
  obtain ⟨y, k2, q2, qb⟩ := bnd_some qa
  obtain ⟨q3, e3⟩ := lift_some qb
  subst e3
  split at q3
  · rename_i s z
    split at q3
    · rename_i hz
      cases q3
      refine ⟨g, ρ, k, _, _, R, q1, fun v g1 H1 n1 o1 => ⟨⟨_, o1.str⟩, g1, ρ, _, _, _, n1.rel, q2, fun w g2 H2 n2 o2 => ?_⟩⟩
      cases o2.str
      exact ⟨s, z, o1.str, rfl, hz.1, hz.2, fun p hp => c _ g2 _ ((n1.trans n2).trans (n2.rel.layO hp)) ((n2.rel.ownNew hp (RdA.ofStrs _)).of (n1.trans n2).dm)⟩
    · cases q3
  · cases q3
theorem pv_dict0 : PE X (.Dict [] [] pos) (tV X.K F (.ret (.d (.dict [])))) := by
  refine pe_dnewK.imp fun σ H Q ⟨g, ρ, k, r, k', R, q, c⟩ => ?_
  obtain ⟨rfl, rfl⟩ := ret_some q
  intro p hp
  exact c _ _ _ (R.layF hp) (.dic upd_same .nil)
theorem pv_dict1 {fa : Cm PyData} {fb : Cm DV} (ha : PE X a (tO X.K F fa)) (hb : PE X b (tV X.K F fb)) : PE X (.Dict [some a] [b] pos) (tV X.K F (fa.bnd fun x => (Cm.lift (keyOk x)).bnd fun _ => fb.bnd fun y => .lift (y.dat.map fun d => .d (.dict [(x, d)])))) := by
  refine (pe_disp (pps_cons ha hb pps_nil) rfl rfl (fun z => by cases z) (by simp)).imp fun σ H Q ⟨g, ρ, k, r, k', R, q, c⟩ => ?_
  obtain ⟨x, k1, q1, qa⟩ := bnd_some q
  obtain ⟨u, k2, q2, qb⟩ := bnd_some qa
  obtain ⟨q2', e2⟩ := lift_some q2
  subst e2
  obtain ⟨y, k3, q3, qc⟩ := bnd_some qb
  obtain ⟨q4, e4⟩ := lift_some qc
  subst e4
  obtain ⟨d, h1, h2⟩ := Option.map_eq_some_iff.mp q4
  subst h2
  intro p hp
  have n0 := R.layO (o := .dK []) hp
  refine ⟨g, ρ, k, x, _, n0.rel, q1, fun v g1 H1 n1 o1 => ⟨g1, ρ, _, y, _, n1.rel, q3, fun w g2 H2 n2 vr => ?_⟩⟩
  obtain ⟨g3, n3, rd, _⟩ := n2.asData n1.rel vr h1
  have n' := n1.trans n3
  have n := n0.trans n'
  have nd : NotDk g3.dA p := by
    rcases n'.dle with e | ⟨e, a', c', e1, e2, e3⟩
    · rw [e]; exact NotDk.of R hp
    · intro a2 c2 e4
      rw [e1] at e4
      cases e4
      constructor
      · rintro rfl; rw [upd_same] at e2; cases e2
      · rintro rfl; rw [upd_same] at e3; cases e3
  have hG : g3.G p = none := by
    cases e : g3.G p with
    | none => rfl
    | some o =>
      rcases n'.nf p o e with z | z
      · rw [R.free hp] at z; cases z
      · rw [upd_same] at z; cases z
  have hk := n'.kp p _ upd_same nd
  have fin : ∀ kk : L2.Key, v = kV kk → x = keyD kk → H2 p = some (.dK []) ∧ ∃ kvs : List (L2.Key × V), [(v, w)] = kvs.map (fun kv => (kV kv.1, kv.2)) ∧ kvs.length ≤ 15 ∧ Q (.ref p) (upd H2 p (.dK (mergeK [] kvs))) := fun kk e1 e2 => by
    refine ⟨hk, [(kk, w)], by rw [e1]; rfl, by simp, ?_⟩
    refine c _ _ _ (Nxt.put (o := .dK (mergeK [] [(kk, w)])) R n hp hG nd ⟨_, hk⟩) ?_
    show Rd X.K _ _ _
    rw [e2]
    exact .dic upd_same (.cons (rd.mono (upd_same' hG)) .nil)
  cases x with
  | int i => exact fin (.inl i) o1.int rfl
  | str z => exact fin (.inr z) o1.str rfl
  | _ => cases q2'
end
end TA

set_option maxHeartbeats 4000000
/-! The deck; what is walked; comprehensions. -/
namespace TA
open PySem PySem.Spec PyProof.Rows L2

section
variable {K : PySem.W.Frag} {F : Fm} {g g' : Gh} {H H' : Hp} {σ σ' : L2.St} {ρ ρ' : Env} {k k' : OD} {v : V} {d : PyData}
theorem Rel.dkAt {q : Dk} (R : Rel K F g H σ ρ (some q)) {a c : Addr} (e : g.dA = some (a, c)) : DkAt H g.G a c q := by
  have z := R.deck
  unfold DkRel at z
  rw [e] at z
  exact z
/-- the deck changes: its list, or its cells -/
theorem Rel.dkTurn {q q' : Dk} (R : Rel K F g H σ ρ (some q)) {a c b : Addr} {o : HO} (e : g.dA = some (a, c)) (hb : b = a ∨ b = c) (h' : DkAt (upd H b o) g.G a c q') : Nxt K F g H g (upd H b o) σ ρ (some q') := by
  obtain ⟨h1, h2, h3, h4, h5⟩ := R.dkAt e
  have hG : g.G b = none := by rcases hb with rfl | rfl; exact h2; exact h3
  have hne : ∀ {x : Addr}, NotDk g.dA x → x ≠ b := fun {x} nd => by
    obtain ⟨n1, n2⟩ := nd a c e
    rcases hb with rfl | rfl
    · exact n1
    · exact n2
  have hHb : ∃ u, H b = some u := by rcases hb with rfl | rfl; exact ⟨_, h4⟩; exact ⟨_, h5⟩
  refine ⟨⟨fun x u z => by rw [upd_ne (ne_of_none z hG)]; exact R.sub _ _ z, R.sub0, R.new, fun x u z nd => by rw [upd_ne (hne nd)]; exact R.keep x u z nd, fun x z => ?_, fun i x z => ?_, R.dist, ?_, R.len, R.dk0⟩, Same.refl _, .inl rfl, fun x z => ?_, fun x u z nd => by rw [upd_ne (hne nd)]; exact z, fun _ _ z => .inl z⟩
  · by_cases w : x = b
    · subst w; rw [upd_same] at z; cases z
    · rw [upd_ne w] at z; exact R.dom x z
  · obtain ⟨v, z1, z2⟩ := R.slot i x z
    refine ⟨v, z1, ?_⟩
    cases x with
    | d y => exact z2
    | own xs =>
      obtain ⟨p, vs, rfl, q3, q4, q5, q6, q7⟩ := z2
      exact ⟨p, vs, rfl, by rw [upd_ne (hne q6)]; exact q3, q4, q5, q6, q7⟩
    | dk => exact z2
  · unfold DkRel
    rw [e]
    exact h'
  · by_cases w : x = b
    · subst w; rw [upd_same] at z; cases z
    · rw [upd_ne w] at z; exact z
theorem dkOf_some {α : Type} {f : Dk → Option (α × Dk)} {i : Nat} {a : α} (h : dkOf f i ρ k = some (a, k')) : ∃ q q', ρ[i]? = some (some .dk) ∧ k = some q ∧ f q = some (a, q') ∧ k' = some q' := by
  unfold dkOf at h
  split at h
  · rename_i q e
    split at h
    · cases h
    · rename_i a' q' e2
      cases h
      exact ⟨q, q', e, rfl, e2, rfl⟩
  · cases h
theorem ints_dp : ∀ ns : List Int, DpAll K H (ns.map V.int) (ns.map PyData.int)
  | [] => .nil
  | n :: ns => .cons (.int n) (ints_dp ns)
theorem ints_lay : ∀ ns : List Int, PyData.canLayAll0 (ns.map PyData.int) = true
  | [] => by simp [PyData.canLayAll0]
  | n :: ns => by simp [PyData.canLayAll0, PyData.canLay0, ints_lay ns]
theorem ints_depth : ∀ ns : List Int, PyData.depthAll (ns.map PyData.int) = 0
  | [] => by simp [PyData.depthAll]
  | n :: ns => by simp [PyData.depthAll, PyData.depth, ints_depth ns]
theorem ints_shaped (ns : List Int) : SeqAt.shaped (.list (ns.map PyData.int)) = true := by
  unfold SeqAt.shaped
  rw [PyData.canLay0, ints_lay, PyData.depth, ints_depth]
  decide
/-- a slot takes data -/
theorem Rel.setD (R : Rel K F g H σ ρ k) (i : Nat) (r : Rd K g.G v d) : Rel K F g H (σ.set i (some v)) (ρ.set i (some (.d d))) k := by
  refine ⟨R.sub, R.sub0, R.new, R.keep, R.dom, fun j x e => ?_, fun j l xs ys w hjl e1 e2 e3 => ?_, R.deck, by rw [List.length_set, List.length_set]; exact R.len, R.dk0⟩
  · by_cases q : i = j
    · subst q
      by_cases hi : i < ρ.length
      · rw [List.getElem?_set_self hi] at e
        cases e
        exact ⟨v, by rw [List.getElem?_set_self (by rw [← R.len]; exact hi)], r⟩
      · rw [List.getElem?_eq_none (by simpa using hi)] at e; cases e
    · rw [List.getElem?_set_ne q] at e ⊢
      exact R.slot j x e
  · have n1 : i ≠ j := fun q => by
      subst q
      by_cases hi : i < ρ.length
      · rw [List.getElem?_set_self hi] at e1; cases e1
      · rw [List.getElem?_eq_none (by simpa using hi)] at e1; cases e1
    have n2 : i ≠ l := fun q => by
      subst q
      by_cases hi : i < ρ.length
      · rw [List.getElem?_set_self hi] at e2; cases e2
      · rw [List.getElem?_eq_none (by simpa using hi)] at e2; cases e2
    rw [List.getElem?_set_ne n1] at e1 e3
    rw [List.getElem?_set_ne n2] at e2 ⊢
    exact R.dist j l xs ys w hjl e1 e2 e3
/-- a block's frame is left: the slots are as they were -/
theorem Rel.back (R : Rel K F g H σ ρ k) (n : Nxt K F g H g' H' σ' ρ' k') : Rel K F g' H' σ ρ k' := by
  have R' := n.rel
  have nd : ∀ {p : Addr} {o : HO}, H p = some o → NotDk g.dA p → NotDk g'.dA p := fun {p o} e h => by
    rcases n.dle with z | ⟨_, a, c, z1, z2, z3⟩
    · rw [z]; exact h
    · intro a' c' z4
      rw [z1] at z4; cases z4
      constructor
      · rintro rfl; rw [e] at z2; cases z2
      · rintro rfl; rw [e] at z3; cases z3
  refine ⟨R'.sub, R'.sub0, R'.new, R'.keep, R'.dom, fun i x e => ?_, R.dist, R'.deck, R.len, R'.dk0⟩
  obtain ⟨v, h1, h2⟩ := R.slot i x e
  refine ⟨v, h1, ?_⟩
  cases x with
  | d y => exact (show Rd K g.G v y from h2).mono n.sub
  | own xs =>
    obtain ⟨p, vs, rfl, q3, q4, q5, q6, q7⟩ := h2
    refine ⟨p, vs, rfl, n.kp p _ q3 (nd q3 q6), ?_, q5.mono n.sub, nd q3 q6, q7⟩
    cases e : g'.G p with
    | none => rfl
    | some o =>
      rcases n.nf p o e with z | z
      · rw [q4] at z; cases z
      · rw [q3] at z; cases z
  | dk =>
    obtain ⟨a, c, h3, h4⟩ := h2
    rcases n.dle with z | ⟨z, _⟩
    · exact ⟨a, c, z.trans h3, h4⟩
    · rw [h3] at z; cases z
theorem Nxt.back (R : Rel K F g H σ ρ k) (n : Nxt K F g H g' H' σ' ρ' k') : Nxt K F g H g' H' σ ρ k' := ⟨R.back n, n.sub, n.dle, n.dm, n.kp, n.nf⟩
end

section
variable {X : Cx} {F : Fm} {e a b : Expr} {pos : Pos}
/-- deck[j] for its list's places -/
theorem dk_item {i j : Nat} {n : Nat} {p : Pos} (h : PE X e (tVar i)) (f : Dk → V) (hf : ∀ (c : Addr) (q : Dk), atI [V.ref c, .int q.tot, .int q.cnt] (n : Int) = some (f q)) {w : Dk → DV} (hw : ∀ q G, w q = .d (match f q with | .int i => .int i | _ => .none) ∧ Rd X.K G (f q) (match f q with | .int i => .int i | _ => .none))
    (hs : PlainIx (.Constant (.int n) j p)) : PE X (.Subscript e (.Constant (.int n) j p) pos) (tV X.K F (dkOf (fun q => some (w q, q)) i)) := by
  refine (pe_ix ix_list h pe_int hs).imp fun σ H Q ⟨g, ρ, k, r, k', R, q, c⟩ => ?_
  obtain ⟨dk, q', h1, rfl, h3, rfl⟩ := dkOf_some q
  cases h3
  obtain ⟨v, h4, a, c', h5, rfl⟩ := R.slot i _ h1
  obtain ⟨z1, z2, z3, z4, z5⟩ := R.dkAt h5
  refine ⟨_, h4, a, _, _, _, rfl, rfl, SqL.of z4, hf c' dk, c _ g H (Nxt.refl R) ?_⟩
  obtain ⟨w1, w2⟩ := hw dk g.G
  rw [w1]
  exact w2
theorem pv_dkTot {i j : Nat} {p : Pos} (h : PE X e (tVar i)) (hs : PlainIx (.Constant (.int 1) j p)) : PE X (.Subscript e (.Constant (.int 1) j p) pos) (tV X.K F (dkOf (fun q => some (.d (.int q.tot), q)) i)) :=
  dk_item (n := 1) h (fun q => .int q.tot) (fun _ _ => rfl) (fun q G => ⟨rfl, Rd.int _⟩) hs
theorem pv_dkCnt {i j : Nat} {p : Pos} (h : PE X e (tVar i)) (hs : PlainIx (.Constant (.int 2) j p)) : PE X (.Subscript e (.Constant (.int 2) j p) pos) (tV X.K F (dkOf (fun q => some (.d (.int q.cnt), q)) i)) :=
  dk_item (n := 2) h (fun q => .int q.cnt) (fun _ _ => rfl) (fun q G => ⟨rfl, Rd.int _⟩) hs
theorem eqv_nil (ns : List Int) : PyData.eqv (.list (ns.map PyData.int)) (.list []) = ns.isEmpty := by
  cases ns <;> simp [PyData.eqv, PyData.eqvAll]
theorem dkNE_imp {i : Nat} {σ : L2.St} {H : Hp} {Q : VK} (h : tO X.K F ((dkOf (fun q => some (!q.cells.isEmpty, q)) i).bnd fun b => .ret (.bool b)) σ H Q) :
    tOp (rNeD X.K) (tOp (rIxL X.K) (tVar i) (tC (.int 0))) (tLst tNil) σ H Q := by
  obtain ⟨g, ρ, k, r, k', R, q, c⟩ := h
  obtain ⟨z, k3, q0, qz⟩ := bnd_some q
  obtain ⟨e3, e4⟩ := ret_some qz
  subst e3 e4
  obtain ⟨dk, q', h1, rfl, h3, rfl⟩ := dkOf_some q0
  cases h3
  obtain ⟨v, h4, a, c', h5, rfl⟩ := R.slot i _ h1
  obtain ⟨z1, z2, z3, z4, z5⟩ := R.dkAt h5
  refine ⟨_, h4, a, _, _, .ref c', rfl, rfl, SqL.of z4, rfl, by show 0 ≤ sizeLine; exact Nat.zero_le _, fun p hp => ?_⟩
  have n := R.layO (o := .lst []) hp
  refine ⟨.list (dk.cells.map PyData.int), .list [], .lst (SqL.of ?_) (ints_dp _), .lst (SqL.of upd_same) .nil, ints_shaped _, ints_shaped [], ?_⟩
  · rw [upd_ne (ne_of_none z5 hp)]; exact z5
  · rw [eqv_nil]
    exact c _ g _ n (.inl (Rd.bl _))
theorem po_dkNE (hu : X.A.units + 65 < cLine) {i j : Nat} {p p1 p2 : Pos} (h : PE X e (tVar i)) (hs : PlainIx (.Constant (.int 0) j p)) : PE X (.Compare (.Subscript e (.Constant (.int 0) j p) p1) [.NotEq] [.List [] p2] pos) (tO X.K F ((dkOf (fun q => some (!q.cells.isEmpty, q)) i).bnd fun b => .ret (.bool b))) :=
  (pe_cmpR (op_neD (by omega)) (pe_ix ix_list h pe_int hs) (pe_lst pa_nil) (nomark _)).imp fun σ H Q h => dkNE_imp h
theorem pt_dkNE (hu : X.A.units + 65 < cLine) {i j : Nat} {p p1 p2 : Pos} (h : PE X e (tVar i)) (hs : PlainIx (.Constant (.int 0) j p)) : PT X (.Compare (.Subscript e (.Constant (.int 0) j p) p1) [.NotEq] [.List [] p2] pos) (tT X.K F (dkOf (fun q => some (!q.cells.isEmpty, q)) i)) := by
  refine (pt_cmpR (op_neD (by omega)) (pe_ix ix_list h pe_int hs) (pe_lst pa_nil) (nomark _)).imp fun σ H Q ⟨g, ρ, k, r, k', R, q, c⟩ => ?_
  refine dkNE_imp (F := F) ⟨g, ρ, k, .bool r, k', R, ?_, fun v g' H' n o => ⟨r, o.bool, c g' H' n⟩⟩
  unfold Cm.bnd
  rw [q]; rfl
theorem getLast_map {ns : List Int} {c : Int} (h : ns.getLast? = some c) : (ns.map V.int)[(ns.map V.int).length - 1]? = some (V.int c) := by
  rw [← List.getLast?_eq_getElem?, List.getLast?_map, h]; rfl
theorem pv_dkPop {i j : Nat} {p p1 ap : Pos} (h : PE X e (tVar i)) (hs : PlainIx (.Constant (.int 0) j p)) (hbase : attributeBase (.Subscript e (.Constant (.int 0) j p) p1) "pop" X.env (eval (.Subscript e (.Constant (.int 0) j p) p1) X.env) = eval (.Subscript e (.Constant (.int 0) j p) p1) X.env) (hline : (ap.endLine == pos.line) = true) :
    PE X (.Call (.Attribute (.Subscript e (.Constant (.int 0) j p) p1) "pop" ap) [] [] pos) (tV X.K F (dkOf popDk i)) := by
  refine (pe_bm0 PySem.F.plainAttrs_list PySem.F.slot_list_pop PySem.F.type_list_pop mt_pop (pe_ix ix_list h pe_int hs) hbase hline).imp fun σ H Q ⟨g, ρ, k, r, k', R, q, c⟩ => ?_
  obtain ⟨dk, q', h1, rfl, h3, rfl⟩ := dkOf_some q
  obtain ⟨v, h4, a, c', h5, rfl⟩ := R.slot i _ h1
  obtain ⟨z1, z2, z3, z4, z5⟩ := R.dkAt h5
  unfold popDk at h3
  split at h3
  · cases h3
  · rename_i cc hl
    cases h3
    refine ⟨_, h4, a, _, _, .ref c', rfl, rfl, SqL.of z4, rfl, .inl ⟨rfl, _, SqL.of z5⟩, c', _, .int cc, rfl, rfl, z5, getLast_map hl, ?_⟩
    refine c _ g _ (R.dkTurn h5 (.inr rfl) ⟨z1, z2, z3, by rw [upd_ne z1]; exact z4, by rw [upd_same, List.map_dropLast]⟩) (Rd.int _)
end
end TA

set_option maxHeartbeats 4000000
/-! What is walked, targets, comprehensions. -/
namespace TA
open PySem PySem.Spec PyProof.Rows L2

/-- the walk J gives the items xs -/
def ItOk (K : PySem.W.Frag) (F : Fm) (J : It) (xs : List PyData) (g0 : Gh) : Prop :=
  ∀ (g : Gh) (H : Hp) (σ : L2.St) (ρ : Env) (k : OD), Rel K F g H σ ρ k → Same g0.G g.G →
    (∀ (i : Nat) d, xs[i]? = some d → J.go i H ∧ ∀ x H', J.yld i H x H' → ∃ g', Nxt K F g H g' H' σ ρ k ∧ Rd K g'.G x d) ∧ J.stop xs.length H
def tI (K : PySem.W.Frag) (F : Fm) (f : Cm (List PyData)) : TI := fun σ H R => ∃ g ρ k xs k', Rel K F g H σ ρ k ∧ f ρ k = some (xs, k') ∧ ∀ J g' H', Nxt K F g H g' H' σ ρ k' → ItOk K F J xs g' → R J H'

section
variable {X : Cx} {F : Fm} {e a b tg : Expr} {pos : Pos}
theorem src_some {m : Sm} {ρ : Env} {k k' : OD} {xs : List PyData} (h : m.src ρ k = some (xs, k')) : ∃ s d, m.v ρ k = some (s, k') ∧ s.dat = some d ∧ itemsD d = some xs ∧ xs.length ≤ sizeLine := by
  unfold Sm.src at h
  obtain ⟨s, k1, q1, qa⟩ := bnd_some h
  obtain ⟨ys, k2, q2, qb⟩ := bnd_some qa
  obtain ⟨q2', e2⟩ := lift_some q2
  obtain ⟨q3, e3⟩ := lift_some qb
  subst e2 e3
  obtain ⟨d, h1, h2⟩ := Option.bind_eq_some_iff.mp q2'
  split at q3
  · cases q3; exact ⟨s, d, q1, h1, h2, by assumption⟩
  · cases q3
/-- a list, a tuple, a text: by the data -/
theorem pi_data {m : Sm} (h : PE X e (tV X.K F m.v)) : PI X tg e (tI X.K F m.src) := by
  refine ⟨fun pins s σ H R I ⟨g, ρ, k, xs, k', Rl, q, c⟩ => ?_⟩
  obtain ⟨sv, d, q1, q2, q3, hz⟩ := src_some q
  have hd : PE X e (tO X.K F (m.v.bnd fun r => .lift r.dat)) := o_of_v h
  have q4 : (m.v.bnd fun r => Cm.lift r.dat) ρ k = some (d, k') := by
    unfold Cm.bnd Cm.lift; rw [q1]; simp only [q2]
  have frozen : ∀ {g1 : Gh} {H1 : Hp} {v : V}, Nxt X.K F g H g1 H1 σ ρ k' → VR X.K H g1 H1 v sv → ∃ g2, Nxt X.K F g H g2 H1 σ ρ k' ∧ Rd X.K g2.G v d := fun n vr => by
    obtain ⟨g2, n2, rd, _⟩ := n.asData Rl vr q2
    exact ⟨g2, n2, rd⟩
  cases d with
  | list ys =>
    cases q3
    refine (pi_list h).run pins s σ H R I ⟨g, ρ, k, sv, k', Rl, q1, fun v g1 H1 n1 vr => ?_⟩
    obtain ⟨g2, n2, rd⟩ := frozen n1 vr
    cases rd with
    | @lst a vs _ ql qa =>
      refine ⟨a, rfl, ⟨vs, .inl (same_rd n2.rel.sub ql)⟩, c _ g2 H1 n2 fun g3 H3 σ3 ρ3 k3 R3 sm => ⟨fun i d hd => ?_, ?_⟩⟩
      · have hq : L2.Rd H3 a (.lst vs) := same_rd R3.sub (same_rd sm ql)
        obtain ⟨w, hw, rw'⟩ := qa.get hd
        refine ⟨⟨vs, w, .inl hq, hw⟩, fun x H' ⟨e1, e2⟩ => ⟨g3, ?_, ?_⟩⟩
        · rw [e1]; exact Nxt.refl R3
        · have := e2 vs (.inl hq)
          rw [hw] at this; cases this
          exact rw'.mono sm
      · exact ⟨vs, .inl (same_rd R3.sub (same_rd sm ql)), by rw [qa.length]; exact Nat.le_refl _⟩
  | tuple ys =>
    cases q3
    refine (pi_tup h).run pins s σ H R I ⟨g, ρ, k, sv, k', Rl, q1, fun v g1 H1 n1 vr => ?_⟩
    obtain ⟨g2, n2, rd⟩ := frozen n1 vr
    cases rd with
    | @tup a vs _ ql qa =>
      refine ⟨a, rfl, ⟨vs, same_sqt n2.rel.sub ql⟩, c _ g2 H1 n2 fun g3 H3 σ3 ρ3 k3 R3 sm => ⟨fun i d hd => ?_, ?_⟩⟩
      · have hq : SqT X.K H3 a vs := same_sqt R3.sub (same_sqt sm ql)
        obtain ⟨w, hw, rw'⟩ := qa.get hd
        refine ⟨⟨vs, w, hq, hw⟩, fun x H' ⟨e1, e2⟩ => ⟨g3, ?_, ?_⟩⟩
        · rw [e1]; exact Nxt.refl R3
        · have := e2 vs hq
          rw [hw] at this; cases this
          exact rw'.mono sm
      · exact ⟨vs, same_sqt R3.sub (same_sqt sm ql), by rw [qa.length]; exact Nat.le_refl _⟩
  | str z =>
    cases q3
    refine (pi_str h).run pins s σ H R I ⟨g, ρ, k, sv, k', Rl, q1, fun v g1 H1 n1 vr => ?_⟩
    obtain ⟨g2, n2, rd⟩ := frozen n1 vr
    cases rd
    refine ⟨z, rfl, c _ g2 H1 n2 fun g3 H3 σ3 ρ3 k3 R3 sm => ⟨fun i d hd => ?_, ?_⟩⟩
    · unfold chars at hd
      rw [List.getElem?_map] at hd
      obtain ⟨ch, h1, h2⟩ := Option.map_eq_some_iff.mp hd
      subst h2
      have hi : i < z.cps.size := by
        have := (List.getElem?_eq_some_iff.mp h1).1
        simpa using this
      refine ⟨hi, fun x H' ⟨e1, ch', e2, e3⟩ => ⟨g3, by rw [e1]; exact Nxt.refl R3, ?_⟩⟩
      rw [← Array.getElem?_toList, h1] at e2
      cases e2
      rw [e3]
      exact Rd.str _
    · show z.cps.size ≤ (chars z).length
      unfold chars; simp
  | _ => cases q3
theorem opds1 {m : Sm} : opdsL [m] = m.o.bnd fun x => (Cm.ret [x]) := by
  funext ρ k
  unfold opdsL opdsL Cm.bnd Cm.ret
  cases m.o ρ k <;> rfl
theorem rngL_get {lo : Int} {n i : Nat} {d : PyData} (h : (rngL lo n)[i]? = some d) : i < n ∧ d = .int (lo + i) := by
  unfold rngL at h
  rw [List.getElem?_map] at h
  obtain ⟨j, h1, h2⟩ := Option.map_eq_some_iff.mp h
  have h3 := List.getElem?_eq_some_iff.mp h1
  obtain ⟨h4, h5⟩ := h3
  simp at h4 h5
  subst h5
  exact ⟨h4, h2.symm⟩
theorem rng_it {K : PySem.W.Frag} {g : Gh} (lo : Int) (n : Nat) : ItOk K F (Itr lo n) (rngL lo n) g := fun g3 H3 σ3 ρ3 k3 R3 sm => by
  refine ⟨fun i d hd => ?_, ?_⟩
  · obtain ⟨h1, rfl⟩ := rngL_get hd
    exact ⟨h1, fun x H' ⟨e1, e2⟩ => ⟨g3, by rw [e1]; exact Nxt.refl R3, by rw [e2]; exact Rd.int _⟩⟩
  · show n ≤ (rngL lo n).length
    unfold rngL; simp
theorem rngOk_iff {i : Int} (h : rngOk i = true) : -(2 ^ 62) ≤ i ∧ i < 2 ^ 62 := by
  unfold rngOk at h
  rw [Bool.and_eq_true] at h
  exact ⟨of_decide_eq_true h.1, of_decide_eq_true h.2⟩
theorem pi_rng1 {fa : Cm PyData} {p : Pos} {m : Sm} (hm : m.v = fa.bnd fun x => .lift ((intD x).bind fun n => if rngOk n && decide (n ≤ 100000) then some (.d (.list (rngL 0 n.toNat))) else none)) (ha : PE X a (tO X.K F fa)) (hg : Gl X "range") (hmg : X.mg "range" = none) (hs : starEach [a] X.env = [(false, eval a X.env)]) (hs0 : NoStar X a []) :
    PI X tg (.Call (.Name "range" p) [a] [] pos) (tI X.K F m.src) := by
  refine ⟨fun pins s σ H R I ⟨g, ρ, k, xs, k', Rl, q, c⟩ => ?_⟩
  obtain ⟨sv, d, q1, q2, q3, hz⟩ := src_some q
  rw [hm] at q1
  obtain ⟨x, k1, q4, qa⟩ := bnd_some q1
  obtain ⟨q5, e5⟩ := lift_some qa
  subst e5
  obtain ⟨n, h1, h2⟩ := Option.bind_eq_some_iff.mp q5
  split at h2
  · rename_i hc
    rw [Bool.and_eq_true] at hc
    cases h2
    cases q2
    cases q3
    refine (pi_range1 hg hmg (pa_cons ha pa_nil hs0) hs).run pins s σ H R I ⟨g, ρ, k, x, _, Rl, q4, fun v g1 H1 n1 o1 => ?_⟩
    cases x with
    | int j =>
      cases h1
      obtain ⟨b1, b2⟩ := rngOk_iff hc.1
      exact ⟨_, by rw [o1.int], b1, b2, c _ g1 H1 n1 (rng_it 0 _)⟩
    | _ => cases h1
  · cases h2
theorem pi_rng2 {fa fb : Cm PyData} {p : Pos} {m : Sm} (hm : m.v = fa.bnd fun x => fb.bnd fun y => .lift ((intD x).bind fun m => (intD y).bind fun n => if rngOk m && rngOk n && decide (n - m ≤ 100000) then some (.d (.list (rngL m (n - m).toNat))) else none))
    (ha : PE X a (tO X.K F fa)) (hb : PE X b (tO X.K F fb)) (hg : Gl X "range") (hmg : X.mg "range" = none) (hs : starEach [a, b] X.env = [(false, eval a X.env), (false, eval b X.env)]) (hs2 : starEach [b] X.env = [(false, eval b X.env)]) (h1s : NoStar X a [b]) (h2s : NoStar X b []) :
    PI X tg (.Call (.Name "range" p) [a, b] [] pos) (tI X.K F m.src) := by
  refine ⟨fun pins s σ H R I ⟨g, ρ, k, xs, k', Rl, q, c⟩ => ?_⟩
  obtain ⟨sv, d, q1, q2, q3, hz⟩ := src_some q
  rw [hm] at q1
  obtain ⟨x, k1, q4, qa⟩ := bnd_some q1
  obtain ⟨y, k2, q6, qb⟩ := bnd_some qa
  obtain ⟨q5, e5⟩ := lift_some qb
  subst e5
  obtain ⟨mm, h1, h2⟩ := Option.bind_eq_some_iff.mp q5
  obtain ⟨n, h3, h4⟩ := Option.bind_eq_some_iff.mp h2
  split at h4
  · rename_i hc
    rw [Bool.and_eq_true, Bool.and_eq_true] at hc
    cases h4
    cases q2
    cases q3
    refine (pi_range2 hg hmg (pa_cons ha (pa_cons hb pa_nil h2s) h1s) hs hs2).run pins s σ H R I ⟨g, ρ, k, x, _, Rl, q4, fun v g1 H1 n1 o1 => ⟨g1, ρ, _, y, _, n1.rel, q6, fun w g2 H2 n2 o2 => ?_⟩⟩
    cases x with
    | int j =>
      cases y with
      | int j2 =>
        cases h1
        cases h3
        obtain ⟨b1, b2⟩ := rngOk_iff hc.1.1
        obtain ⟨b3, b4⟩ := rngOk_iff hc.1.2
        exact ⟨_, _, by rw [o1.int, o2.int], ⟨b1, b2, b3, b4⟩, c _ g2 H2 (n1.trans n2) (rng_it _ _)⟩
      | _ => cases h3
    | _ => cases h1
  · cases h4

/-! ### targets -/
def gAll : List Nat → TGs
  | [] => gNil
  | i :: is => gCons (gName i) (gAll is)
def gT (K : PySem.W.Frag) : Tg → TG
  | .one i => gName i
  | .many is => gTup K is.length (gAll is)
def SetAt (is : List Nat) (σ σ2 : L2.St) : Prop := σ2.length = σ.length ∧ ∀ (j : Nat), j ∉ is → σ2[j]? = σ[j]?
theorem gAll_ok {K : PySem.W.Frag} {g : Gh} {H : Hp} {k : OD} {Q : L2.St → Hp → Prop} : ∀ {is : List Nat} {vs : List V} {xs : List PyData} {σ : L2.St} {ρ ρ2 : Env}, Rel K F g H σ ρ k → RdA K g.G vs xs → setMany is xs ρ = some ρ2 →
    (∀ σ2, Rel K F g H σ2 ρ2 k → SetAt is σ σ2 → Q σ2 H) → gAll is vs σ H Q
  | [], _, _, σ, ρ, ρ2, R, .nil, e, hq => by
    cases e
    exact ⟨rfl, hq σ R ⟨rfl, fun _ _ => rfl⟩⟩
  | [], _, _, _, _, _, _, .cons _ _, e, _ => by cases e
  | _ :: _, _, _, _, _, _, _, .nil, e, _ => by cases e
  | i :: is, _, _, σ, ρ, ρ2, R, .cons (d := d) (v := v) q r, e, hq => by
    refine ⟨_, _, rfl, ?_⟩
    refine gAll_ok (R.setD i q) r e fun σ2 R2 sa => hq σ2 R2 ⟨by rw [sa.1, List.length_set], fun j hj => ?_⟩
    rw [sa.2 j (fun z => hj (List.mem_cons_of_mem _ z)), List.getElem?_set_ne]
    rintro rfl
    exact hj List.mem_cons_self
theorem setMany_len : ∀ {is : List Nat} {xs : List PyData} {ρ ρ2 : Env}, setMany is xs ρ = some ρ2 → xs.length = is.length
  | [], [], _, _, _ => rfl
  | [], _ :: _, _, _, e => by cases e
  | _ :: _, [], _, _, e => by cases e
  | i :: is, x :: xs, ρ, ρ2, e => by
    have := setMany_len (is := is) (xs := xs) (show setMany is xs (ρ.set i (some (.d x))) = some ρ2 from e)
    rw [List.length_cons, List.length_cons, this]
theorem gT_ok {K : PySem.W.Frag} {g : Gh} {H : Hp} {k : OD} {Q : L2.St → Hp → Prop} {t : Tg} {v : V} {d : PyData} {σ : L2.St} {ρ ρ2 : Env} (R : Rel K F g H σ ρ k) (r : Rd K g.G v d) (e : setTg t d ρ = some ρ2)
    (hq : ∀ σ2, Rel K F g H σ2 ρ2 k → SetAt t.slots σ σ2 → Q σ2 H) : gT K t v σ H Q := by
  cases t with
  | one i =>
    cases e
    refine hq _ (R.setD i r) ⟨by rw [List.length_set], fun j hj => ?_⟩
    rw [List.getElem?_set_ne]
    rintro rfl
    exact hj (by simp [Tg.slots])
  | many is =>
    cases d with
    | tuple xs =>
      cases r with
      | @tup a vs _ q1 q2 => exact ⟨a, vs, rfl, same_sqt R.sub q1, by rw [q2.length]; exact setMany_len e, gAll_ok R q2 e hq⟩
    | _ => cases e
theorem wipe_in {σ : L2.St} : ∀ {vs : List Nat} {i : Nat}, i ∈ vs → (wipe σ vs)[i]? = if i < σ.length then some none else none
  | v :: vs, i, h => by
    unfold wipe
    by_cases q : v = i
    · subst q
      rw [List.getElem?_set]
      simp only [if_true, wipe_length]
    · rw [List.getElem?_set_ne q]
      rcases List.mem_cons.mp h with z | z
      · exact absurd z.symm q
      · exact wipe_in z
theorem wipe_ext {σ σ2 : L2.St} {vs : List Nat} (h : SetAt vs (wipe σ vs) σ2) : wipe σ2 vs = wipe σ vs := by
  apply List.ext_getElem?
  intro i
  by_cases q : i ∈ vs
  · rw [wipe_in q, wipe_in q, h.1, wipe_length]
  · rw [wipe_out q, wipe_out q, h.2 i q, wipe_out q]
theorem wipeE_out {ρ : Env} : ∀ {vs : List Nat} {i : Nat}, i ∉ vs → (wipeE ρ vs)[i]? = ρ[i]?
  | [], _, _ => rfl
  | v :: vs, i, h => by
    unfold wipeE
    simp only [List.mem_cons, not_or] at h
    rw [List.getElem?_set_ne (Ne.symm h.1), wipeE_out h.2]
theorem wipeE_in {ρ : Env} : ∀ {vs : List Nat} {i : Nat} {x : DV}, i ∈ vs → (wipeE ρ vs)[i]? ≠ some (some x)
  | v :: vs, i, x, h => by
    unfold wipeE
    by_cases q : v = i
    · subst q
      rw [List.getElem?_set]
      split
      · split <;> (intro z; cases z)
      · rename_i n; exact absurd rfl n
    · rw [List.getElem?_set_ne q]
      rcases List.mem_cons.mp h with z | z
      · exact absurd z.symm q
      · exact wipeE_in z
theorem wipeE_len {ρ : Env} : ∀ {vs : List Nat}, (wipeE ρ vs).length = ρ.length
  | [] => rfl
  | v :: vs => by unfold wipeE; rw [List.length_set, wipeE_len]
theorem Rel.wiped {K : PySem.W.Frag} {g : Gh} {H : Hp} {k : OD} {σ : L2.St} {ρ : Env} (R : Rel K F g H σ ρ k) (vs : List Nat) : Rel K F g H (wipe σ vs) (wipeE ρ vs) k := by
  have key : ∀ {i : Nat} {x : DV}, (wipeE ρ vs)[i]? = some (some x) → ρ[i]? = some (some x) ∧ i ∉ vs := fun {i x} e => by
    by_cases q : i ∈ vs
    · exact absurd e (wipeE_in q)
    · rw [wipeE_out q] at e; exact ⟨e, q⟩
  refine ⟨R.sub, R.sub0, R.new, R.keep, R.dom, fun i x e => ?_, fun i j xs ys w hij e1 e2 e3 => ?_, R.deck, by rw [wipeE_len, wipe_length]; exact R.len, R.dk0⟩
  · obtain ⟨e1, e2⟩ := key e
    obtain ⟨v, h1, h2⟩ := R.slot i x e1
    exact ⟨v, by rw [wipe_out e2]; exact h1, h2⟩
  · obtain ⟨z1, z2⟩ := key e1
    obtain ⟨z3, z4⟩ := key e2
    rw [wipe_out z2] at e3
    rw [wipe_out z4]
    exact R.dist i j xs ys w hij z1 z3 e3
theorem ndKeep {K : PySem.W.Frag} {g g' : Gh} {H H' : Hp} {σ : L2.St} {ρ : Env} {k : OD} (n : Nxt K F g H g' H' σ ρ k) {p : Addr} {o : HO} (e : H p = some o) (h : NotDk g.dA p) : NotDk g'.dA p := by
  rcases n.dle with z | ⟨_, a, c, z1, z2, z3⟩
  · rw [z]; exact h
  · intro a' c' z4
    rw [z1] at z4; cases z4
    constructor
    · rintro rfl; rw [e] at z2; cases z2
    · rintro rfl; rw [e] at z3; cases z3
theorem gKeep {K : PySem.W.Frag} {g g' : Gh} {H H' : Hp} {σ : L2.St} {ρ : Env} {k : OD} (n : Nxt K F g H g' H' σ ρ k) {p : Addr} {o : HO} (e : H p = some o) (h : g.G p = none) : g'.G p = none := by
  cases q : g'.G p with
  | none => rfl
  | some u =>
    rcases n.nf p u q with z | z
    · rw [h] at z; cases z
    · rw [e] at z; cases z
/-- what stands between two turns of a comprehension: the list so far at D -/
structure CompInv (K : PySem.W.Frag) (F : Fm) (tg : Tg) (fe : Cm DV) (fc : Cm Bool) (all : List PyData) (kf : OD) (xs : List PyData) (g1 : Gh) (H1 : Hp) (σ : L2.St) (ρ : Env) (D : Addr) (i : Nat) (H2 : Hp) : Prop where
  ex : ∃ g2 k2 acc ds ys, Nxt K F g1 H1 g2 H2 σ ρ k2 ∧ H2 D = some (.lst acc) ∧ g2.G D = none ∧ NotDk g2.dA D ∧ RdA K g2.G acc ds ∧ compL tg fe fc (xs.drop i) ρ k2 = some (ys, kf) ∧ ds ++ ys = all ∧ ds.length ≤ i
theorem comp_imp {K : PySem.W.Frag} {t : Tg} {fe : Cm DV} {fc : Cm Bool} {fs : Cm (List PyData)} (hfs : ∀ ρ k xs k', fs ρ k = some (xs, k') → xs.length ≤ sizeLine) {σ : L2.St} {H : Hp} {Q : VK}
    (h : tV K F (fs.bnd fun xs => (compL t fe fc xs).bnd fun ys => .ret (.own ys)) σ H Q) : tLc (tI K F fs) (gT K t) (tT K F fc) (tV K F fe) t.slots σ H Q := by
  obtain ⟨g, ρ, k, r, k', R, q, c⟩ := h
  obtain ⟨xs, k1, q1, qa⟩ := bnd_some q
  obtain ⟨all, k3, q2, qb⟩ := bnd_some qa
  obtain ⟨e3, e4⟩ := ret_some qb
  subst e3 e4
  have hz := hfs _ _ _ _ q1
  refine ⟨g, ρ, k, xs, k1, R, q1, fun J g1 H1 n1 it D hD => ?_⟩
  have R1 := n1.rel
  refine ⟨fun i m H2 => m = xs.length - i ∧ i ≤ xs.length ∧ CompInv K F t fe fc all k' xs g1 H1 σ ρ D i H2, ⟨xs.length, by simp, Nat.zero_le _, ⟨g1, k1, [], [], all, R1.layO hD, upd_same, R1.free hD, NotDk.of R1 hD, .nil, by simpa using q2, rfl, Nat.le_refl _⟩⟩, ?_⟩
  rintro i m H2 ⟨rfl, hi, ⟨g2, k2, acc, ds, ys, n2, hDD, hG, hd, ra, hl, hall, hlen⟩⟩
  obtain ⟨step, stop⟩ := it g2 H2 σ ρ k2 n2.rel n2.sub
  by_cases hlt : i < xs.length
  · have hx : xs[i]? = some xs[i] := List.getElem?_eq_getElem hlt
    obtain ⟨go, yl⟩ := step i _ hx
    rw [List.drop_eq_getElem_cons hlt] at hl
    refine .inr ⟨go, fun H3 => CompInv K F t fe fc all k' xs g1 H1 σ ρ D (i + 1) H3, fun H' p' => ⟨xs.length - (i + 1), by omega, rfl, hlt, p'⟩, fun x H3 y => ?_⟩
    obtain ⟨g3, n3, rd⟩ := yl x H3 y
    simp only [compL] at hl
    split at hl
    · cases hl
    · rename_i ρ2 hset
      refine gT_ok (n3.rel.wiped t.slots) rd hset fun σ2 Rs sa => ⟨wipe_ext sa, ?_⟩
      have d3 := n3.kp D _ hDD (ndKeep n3 hDD hd)
      have G3 := gKeep n3 hDD hG
      have nd3 := ndKeep n3 hDD hd
      split at hl
      · cases hl
      · rename_i k4 hc
        refine ⟨g3, ρ2, k2, false, k4, Rs, hc, fun g4 H4 n4 => ?_⟩
        dsimp only
        refine iteF ?_
        have nb := Nxt.back n3.rel n4
        exact ⟨g4, k4, acc, ds, ys, (n2.trans n3).trans nb, n4.kp D _ d3 (ndKeep n4 d3 nd3), gKeep n4 d3 G3, ndKeep n4 d3 nd3, ra.mono (n3.sub.trans n4.sub), hl, hall, by omega⟩
      · rename_i k4 hc
        refine ⟨g3, ρ2, k2, true, k4, Rs, hc, fun g4 H4 n4 => ?_⟩
        dsimp only
        refine iteT ?_
        split at hl
        · cases hl
        · rename_i yv k5 he
          split at hl
          · cases hl
          · rename_i d hdat
            split at hl
            · cases hl
            · rename_i ds' k6 hrest
              cases hl
              refine ⟨g4, ρ2, k4, yv, k5, n4.rel, he, fun v g5 H5 n5 vr => ?_⟩
              obtain ⟨g6, n6, rdv, _⟩ := n5.asData n4.rel vr hdat
              have n46 := n4.trans n6
              have d4 := n46.kp D _ d3 (ndKeep n46 d3 nd3)
              have nb := Nxt.back n3.rel n46
              have nn := (n2.trans n3).trans nb
              refine ⟨acc, d4, ?_, ?_⟩
              · rw [ra.length]; omega
              · refine ⟨g6, k5, acc ++ [v], ds ++ [d], ds', nn.putO R1 hD (gKeep n46 d3 G3) (ndKeep n46 d3 nd3), upd_same, gKeep n46 d3 G3, ndKeep n46 d3 nd3, (ra.mono (n3.sub.trans n46.sub)).append (.cons rdv .nil), hrest, ?_, ?_⟩
                · rw [List.append_assoc]; exact hall
                · rw [List.length_append]; simp only [List.length_cons, List.length_nil]; omega
  · have e : i = xs.length := by omega
    subst e
    rw [List.drop_length] at hl
    cases hl
    rw [List.append_nil] at hall
    subst hall
    exact .inl ⟨stop, c _ g2 H2 (n1.trans n2) ⟨D, acc, rfl, hDD, hG, ra, hd, n1.dm _ hD⟩⟩
theorem src_le {m : Sm} (ρ : Env) (k : OD) (xs : List PyData) (k' : OD) (h : m.src ρ k = some (xs, k')) : xs.length ≤ sizeLine := by
  obtain ⟨_, _, _, _, _, hz⟩ := src_some h
  exact hz
abbrev blkX (X : Cx) (s : Shared) (H : Hp) (scope : Scope) (C : Addr) (cl : List (Str × Addr)) (fp : List Addr) : Cx := X.blk s H scope (compEnvC scope cl C X.env) fp
theorem pv_comp {elt tge iter : Expr} {ifs : List Expr} {scope : Scope} {own : List (Str × Nat)} {t : Tg} {fe : Cm DV} {fc : Cm Bool} {m : Sm} (hc : X.calm = true) (hN : X.N.Nodup) (hi : PI X tge iter (tI X.K F m.src)) (ok : BlkOk X.N X.env.scope scope own) (how : own.map (·.2) = t.slots)
    (hg : ∀ s H C cl fp, PG (blkX X s H scope C cl fp) tge (gT X.K t)) (ht : ∀ s H C cl fp, PTs (blkX X s H scope C cl fp) ifs (tT X.K F fc)) (he : ∀ s H C cl fp, PE (blkX X s H scope C cl fp) elt (tV X.K F fe)) (hs : ∀ x, foldedSetIterable iter X.env x = pure x) :
    PE X (.ListComp elt [⟨tge, iter, ifs, 0⟩] scope pos) (tV X.K F (m.src.bnd fun xs => (compL t fe fc xs).bnd fun ys => .ret (.own ys))) := by
  refine (pe_lc hc hN hi ok hg ht he hs).imp fun σ H Q h => ?_
  rw [how]
  exact comp_imp src_le h
end
end TA

set_option maxHeartbeats 4000000
/-! Statements. -/
namespace TA
open PySem PySem.Spec PyProof.Rows L2

/-- how a statement's end meets what is wanted -/
def EndOk (K : PySem.W.Frag) (F : Fm) (g : Gh) (D : Ends) : Fl → OD → Prop
  | .nx ρ', k' => ∀ σ' g' H', Rel K F g' H' σ' ρ' k' → Same g.G g'.G → D.nx σ' H'
  | .bk ρ', k' => ∀ σ' g' H', Rel K F g' H' σ' ρ' k' → Same g.G g'.G → D.bk σ' H'
  | .ct ρ', k' => ∀ σ' g' H', Rel K F g' H' σ' ρ' k' → Same g.G g'.G → D.ct σ' H'
  | .rt r, k' => ∀ v g' H' σ' ρ', Rel K F g' H' σ' ρ' k' → Same g.G g'.G → SR K F g' H' v r → D.rt v H'
def tS (K : PySem.W.Frag) (F : Fm) (f : Cs) : TS := fun D σ H => ∃ g ρ k fl k', Rel K F g H σ ρ k ∧ f ρ k = some (fl, k') ∧ EndOk K F g D fl k'
theorem _root_.L2.PS.imp {X : Cx} {e : Stmt} {t t' : TS} (h : PS X e t) (i : ∀ D σ H, t' D σ H → t D σ H) : PS X e t' := ⟨fun pins s σ H D I q => h.run pins s σ H D I (i D σ H q)⟩
theorem _root_.L2.PSs.imp {X : Cx} {e : List Stmt} {t t' : TS} (h : PSs X e t) (i : ∀ D σ H, t' D σ H → t D σ H) : PSs X e t' := ⟨fun pins s σ H D I q => h.run pins s σ H D I (i D σ H q)⟩

section
variable {K : PySem.W.Frag} {F : Fm} {g g' : Gh} {H H' : Hp} {σ σ' : L2.St} {ρ ρ' : Env} {k k' : OD} {v : V} {d : PyData} {r : DV}
theorem EndOk.mono {D : Ends} {fl : Fl} (h : EndOk K F g D fl k) (s : Same g.G g'.G) : EndOk K F g' D fl k := by
  cases fl with
  | nx ρ => exact fun σ' g2 H' R s2 => h σ' g2 H' R (s.trans s2)
  | bk ρ => exact fun σ' g2 H' R s2 => h σ' g2 H' R (s.trans s2)
  | ct ρ => exact fun σ' g2 H' R s2 => h σ' g2 H' R (s.trans s2)
  | rt x => exact fun v g2 H' σ' ρ' R s2 => h v g2 H' σ' ρ' R (s.trans s2)
theorem VR.sr (R : Rel K F g H σ ρ k) (h : VR K H g' H' v r) : SR K F g' H' v r := by
  cases r with
  | d x => exact h
  | own xs =>
    obtain ⟨p, vs, h1, h2, h3, h4, h5, h6⟩ := h
    exact ⟨p, vs, h1, h2, h3, h4, h5, R.dom _ h6⟩
  | dk => exact h
theorem set_get {i j : Nat} {x y : DV} (h : (ρ.set i (some x))[j]? = some (some y)) : (i = j ∧ i < ρ.length ∧ x = y) ∨ (i ≠ j ∧ ρ[j]? = some (some y)) := by
  by_cases q : i = j
  · subst q
    by_cases hi : i < ρ.length
    · rw [List.getElem?_set_self hi] at h
      cases h
      exact .inl ⟨rfl, hi, rfl⟩
    · rw [List.getElem?_eq_none (by simpa using hi)] at h; cases h
  · rw [List.getElem?_set_ne q] at h
    exact .inr ⟨q, h⟩
/-- a slot takes a value; what it owns is owned by no other slot -/
theorem Rel.setS (R : Rel K F g H σ ρ k) (i : Nat) (s : SR K F g H v r) (hd : ∀ xs, r = .own xs → ∀ (j : Nat) ys, j ≠ i → ρ[j]? = some (some (.own ys)) → σ[j]? ≠ some (some v)) : Rel K F g H (σ.set i (some v)) (ρ.set i (some r)) k := by
  refine ⟨R.sub, R.sub0, R.new, R.keep, R.dom, fun j x e => ?_, fun j l xs ys w hjl e1 e2 e3 => ?_, R.deck, by rw [List.length_set, List.length_set]; exact R.len, R.dk0⟩
  · rcases set_get e with ⟨rfl, hi, rfl⟩ | ⟨q, e⟩
    · exact ⟨v, by rw [List.getElem?_set_self (by rw [← R.len]; exact hi)], s⟩
    · rw [List.getElem?_set_ne q]
      exact R.slot j x e
  · rcases set_get e1 with ⟨rfl, hi, q1⟩ | ⟨q, e1⟩
    · rw [List.getElem?_set_self (by rw [← R.len]; exact hi)] at e3
      cases e3
      rcases set_get e2 with ⟨q2, _, _⟩ | ⟨q2, e2⟩
      · exact absurd q2 hjl
      · rw [List.getElem?_set_ne q2]
        exact hd xs q1 l ys (Ne.symm q2) e2
    · rw [List.getElem?_set_ne q] at e3
      rcases set_get e2 with ⟨rfl, hi, q2⟩ | ⟨q2, e2⟩
      · rw [List.getElem?_set_self (by rw [← R.len]; exact hi)]
        intro z
        cases z
        exact hd ys q2 j xs (Ne.symm q) e1 e3
      · rw [List.getElem?_set_ne q2]
        exact R.dist j l xs ys w hjl e1 e2 e3
theorem Rel.setV (R : Rel K F g H σ ρ k) (n : Nxt K F g H g' H' σ ρ k') (vr : VR K H g' H' v r) (i : Nat) : Rel K F g' H' (σ.set i (some v)) (ρ.set i (some r)) k' := by
  refine n.rel.setS i (vr.sr R) fun xs e j ys _ e1 e2 => ?_
  subst e
  obtain ⟨p, vs, rfl, h2, h3, h4, h5, h6⟩ := vr
  obtain ⟨v', q1, q, ws, rfl, q3, _⟩ := R.slot j _ e1
  rw [e2] at q1; cases q1
  rw [h6] at q3; cases q3
theorem VR.nxt {Hs : Hp} (vr : VR K Hs g H v r) (n : Nxt K F g H g' H' σ ρ k) : VR K Hs g' H' v r := by
  cases r with
  | d x => exact Rd.mono n.sub _ _ vr
  | own xs =>
    obtain ⟨p, vs, rfl, h2, h3, h4, h5, h6⟩ := vr
    exact ⟨p, vs, rfl, n.kp p _ h2 (ndKeep n h2 h5), gKeep n h2 h3, h4.mono n.sub, ndKeep n h2 h5, h6⟩
  | dk =>
    obtain ⟨a, c, h1, h2⟩ := vr
    rcases n.dle with z | ⟨z, _⟩
    · exact ⟨a, c, z.trans h1, h2⟩
    · rw [h1] at z; cases z
end

section
variable {X : Cx} {F : Fm} {e a b : Expr} {pos : Pos}
theorem ss_nil : PSs X [] (tS X.K F fun ρ k => some (.nx ρ, k)) := pss_nil.imp fun D σ H ⟨g, ρ, k, fl, k', R, q, c⟩ => by
  cases q
  exact c σ g H R (Same.refl _)
theorem ss_cons {st : Stmt} {ss : List Stmt} {f h : Cs} (h1 : PS X st (tS X.K F f)) (h2 : PSs X ss (tS X.K F h)) : PSs X (st :: ss) (tS X.K F fun ρ k => match f ρ k with
    | some (.nx ρ', k1) => h ρ' k1
    | r => r) := by
  refine (pss_cons h1 h2).imp fun D σ H ⟨g, ρ, k, fl, k', R, q, c⟩ => ?_
  dsimp only at q
  cases e : f ρ k with
  | none => rw [e] at q; cases q
  | some p =>
    obtain ⟨fl1, k1⟩ := p
    rw [e] at q
    cases fl1 with
    | nx ρ1 => exact ⟨g, ρ, k, .nx ρ1, k1, R, e, fun σ' g' H' R' s => ⟨g', ρ1, k1, fl, k', R', q, c.mono s⟩⟩
    | bk ρ1 => cases q; exact ⟨g, ρ, k, .bk ρ1, _, R, e, c⟩
    | ct ρ1 => cases q; exact ⟨g, ρ, k, .ct ρ1, _, R, e, c⟩
    | rt v => cases q; exact ⟨g, ρ, k, .rt v, _, R, e, c⟩
/-- the ghost step: a slot's list is frozen -/
theorem ss_frz {ss : List Stmt} {i : Nat} {h : Cs} (h2 : PSs X ss (tS X.K F h)) : PSs X ss (tS X.K F fun ρ k => match (match ρ[i]? with
    | some (some (.own xs)) => some (.nx (ρ.set i (some (.d (.list xs)))), k)
    | some (some (.d x)) => some (.nx ρ, k)
    | _ => none : Option (Fl × OD)) with
    | some (.nx ρ', k1) => h ρ' k1
    | r => r) := by
  refine h2.imp fun D σ H ⟨g, ρ, k, fl, k', R, q, c⟩ => ?_
  dsimp only at q
  cases e : ρ[i]? with
  | none => rw [e] at q; cases q
  | some o =>
    rw [e] at q
    cases o with
    | none => cases q
    | some x =>
      cases x with
      | d y => exact ⟨g, ρ, k, fl, k', R, q, c⟩
      | dk => cases q
      | own xs =>
        obtain ⟨v, h1, p, vs, rfl, h3, h4, h5, h6, h7⟩ := R.slot i _ e
        have sm : Same g.G (upd g.G p (.lst vs)) := upd_same' h4
        refine ⟨{ g with G := upd g.G p (.lst vs) }, ρ.set i (some (.d (.list xs))), k, fl, k', ?_, q, c.mono sm⟩
        have ownNe : ∀ {j : Nat} {ys : List PyData} {q : Addr}, i ≠ j → ρ[j]? = some (some (.own ys)) → σ[j]? = some (some (.ref q)) → q ≠ p := fun {j ys q} hij e1 e2 => by
          rintro rfl
          exact R.dist i j xs ys _ hij e e1 h1 e2
        refine ⟨fun b u z => ?_, R.sub0.trans sm, fun b u z => ?_, R.keep, R.dom, fun j x z => ?_, fun j l as bs w hjl e1 e2 e3 => ?_, ?_, by rw [List.length_set]; exact R.len, R.dk0⟩
        · by_cases w : b = p
          · subst w
            have z' : upd g.G b (.lst vs) b = some u := z
            rw [upd_same] at z'; cases z'; exact h3
          · exact R.sub _ _ (by simpa [upd_ne w] using z)
        · by_cases w : b = p
          · subst w; exact .inr h7
          · exact R.new b u (by simpa [upd_ne w] using z)
        · rcases set_get z with ⟨rfl, hi, rfl⟩ | ⟨w, z⟩
          · exact ⟨_, h1, .lst (.inl upd_same) (h5.mono sm)⟩
          · obtain ⟨v', z1, z2⟩ := R.slot j x z
            refine ⟨v', z1, ?_⟩
            cases x with
            | d y => exact (show Rd X.K g.G v' y from z2).mono sm
            | own ys =>
              obtain ⟨q', ws, rfl, q3, q4, q5, q6, q7⟩ := z2
              refine ⟨q', ws, rfl, q3, ?_, q5.mono sm, q6, q7⟩
              show upd g.G p (.lst vs) q' = none
              rw [upd_ne (ownNe w z z1)]; exact q4
            | dk => exact z2
        · rcases set_get e1 with ⟨_, _, z⟩ | ⟨_, e1⟩
          · cases z
          · rcases set_get e2 with ⟨_, _, z⟩ | ⟨_, e2⟩
            · cases z
            · exact R.dist j l as bs w hjl e1 e2 e3
        · have z := R.deck
          unfold DkRel at z ⊢
          cases ed : g.dA with
          | none =>
            rw [ed] at z
            cases k with
            | none => trivial
            | some w => exact z.elim
          | some ac =>
            obtain ⟨a, c⟩ := ac
            rw [ed] at z
            cases k with
            | none => exact z
            | some w =>
              obtain ⟨z1, z2, z3, z4, z5⟩ : DkAt H g.G a c w := z
              obtain ⟨n1, n2⟩ := h6 a c ed
              refine ⟨z1, ?_, ?_, z4, z5⟩
              · show upd g.G p (.lst vs) a = none; rw [upd_ne (Ne.symm n1)]; exact z2
              · show upd g.G p (.lst vs) c = none; rw [upd_ne (Ne.symm n2)]; exact z3
theorem set_imp {i : Nat} {f : Cm DV} {D : Ends} {σ : L2.St} {H : Hp} (h : tS X.K F (fun ρ k => match f ρ k with
    | none => none
    | some (x, k1) => some (.nx (ρ.set i (some x)), k1)) D σ H) : tAsg (tV X.K F f) (gName i) D σ H := by
  obtain ⟨g, ρ, k, fl, k', R, q, c⟩ := h
  dsimp only at q
  cases e : f ρ k with
  | none => rw [e] at q; cases q
  | some p =>
    obtain ⟨x, k1⟩ := p
    rw [e] at q
    cases q
    exact ⟨g, ρ, k, x, _, R, e, fun v g' H' n vr => c _ g' H' (R.setV n vr i) n.sub⟩
theorem pS_set {i : Nat} {x : Str} {pos' : Pos} {f : Cm DV} (hN : X.N.Nodup) (hi : X.N[i]? = some x) (hx : Loc X.env.scope x) (he : PE X e (tV X.K F f)) (hs : swapsWith e (some (.Name x pos')) pos.line X.env = pure false) (hf : X.fn x = true ∨ X.env.scope.names.lookup x = some .local) :
    PS X (.Assign [.Name x pos'] e pos) (tS X.K F fun ρ k => match f ρ k with
      | none => none
      | some (x, k1) => some (.nx (ρ.set i (some x)), k1)) := (ps_set hN hi hx he hs hf).imp fun D σ H h => set_imp h
theorem pS_ret {f : Cm DV} (he : PE X e (tV X.K F f)) : PS X (.Return (some e) pos) (tS X.K F fun ρ k => match f ρ k with
      | none => none
      | some (x, k1) => some (.rt x, k1)) := by
  refine (ps_ret he).imp fun D σ H ⟨g, ρ, k, fl, k', R, q, c⟩ => ?_
  dsimp only at q
  cases e : f ρ k with
  | none => rw [e] at q; cases q
  | some p =>
    obtain ⟨x, k1⟩ := p
    rw [e] at q
    cases q
    exact ⟨g, ρ, k, x, _, R, e, fun v g' H' n vr => c v g' H' σ ρ n.rel n.sub (vr.sr R)⟩
theorem pS_retV {i : Nat} (he : PE X e (tVar i)) : PS X (.Return (some e) pos) (tS X.K F fun ρ k => match ρ[i]? with
      | some (some x) => some (.rt x, k)
      | _ => none) := by
  refine (ps_ret he).imp fun D σ H ⟨g, ρ, k, fl, k', R, q, c⟩ => ?_
  dsimp only at q
  split at q
  · rename_i x hx
    cases q
    obtain ⟨v, h1, h2⟩ := R.slot i _ hx
    exact ⟨v, h1, c v g H σ ρ R (Same.refl _) h2⟩
  · cases q
theorem pS_retN : PS X (.Return none pos) (tS X.K F fun _ k => some (.rt (.d .none), k)) := ps_retN.imp fun D σ H ⟨g, ρ, k, fl, k', R, q, c⟩ => by
  cases q
  exact c .non g H σ ρ R (Same.refl _) Rd.non
theorem pS_brk : PS X (.Break pos) (tS X.K F fun ρ k => some (.bk ρ, k)) := ps_break.imp fun D σ H ⟨g, ρ, k, fl, k', R, q, c⟩ => by
  cases q
  exact c σ g H R (Same.refl _)
theorem pS_cont : PS X (.Continue pos) (tS X.K F fun ρ k => some (.ct ρ, k)) := ps_continue.imp fun D σ H ⟨g, ρ, k, fl, k', R, q, c⟩ => by
  cases q
  exact c σ g H R (Same.refl _)
theorem pS_ite {t : Expr} {as bs : List Stmt} {ft : Cm Bool} {fa fb : Cs} (ht : PT X t (tT X.K F ft)) (ha : PSs X as (tS X.K F fa)) (hb : PSs X bs (tS X.K F fb)) : PS X (.If t as bs pos) (tS X.K F fun ρ k => match ft ρ k with
    | none => none
    | some (true, k1) => fa ρ k1
    | some (false, k1) => fb ρ k1) := by
  refine (ps_if ht ha hb).imp fun D σ H ⟨g, ρ, k, fl, k', R, q, c⟩ => ?_
  dsimp only at q
  cases e : ft ρ k with
  | none => rw [e] at q; cases q
  | some p =>
    obtain ⟨x, k1⟩ := p
    rw [e] at q
    refine ⟨g, ρ, k, x, k1, R, e, fun g' H' n => ?_⟩
    cases x with
    | true => exact iteT ⟨g', ρ, k1, fl, k', n.rel, q, c.mono n.sub⟩
    | false => exact iteF ⟨g', ρ, k1, fl, k', n.rel, q, c.mono n.sub⟩
/-- for -/
structure ForInv (K : PySem.W.Frag) (F : Fm) (t : Tg) (fb : Cs) (xs : List PyData) (g1 : Gh) (fl : Fl) (kf : OD) (i : Nat) (σ : L2.St) (H : Hp) : Prop where
  ex : ∃ g2 ρ2 k2, Rel K F g2 H σ ρ2 k2 ∧ Same g1.G g2.G ∧ forL t fb (xs.drop i) ρ2 k2 = some (fl, kf)
theorem pS_for {tge iter : Expr} {body : List Stmt} {t : Tg} {m : Sm} {fb : Cs} (hp : PassesOwn (model X.prog X.w) X.A X.env X.xe) (hc : X.calm = true) (hi : PI X tge iter (tI X.K F m.src)) (hg : PG X tge (gT X.K t)) (hb : PSs X body (tS X.K F fb))
    (hs : ∀ x, foldedSetIterable iter X.env x = pure x) : PS X (.For tge iter body [] pos) (tS X.K F fun ρ k => match m.src ρ k with
      | none => none
      | some (xs, k1) => forL t fb xs ρ k1) := by
  refine (ps_for hp hc hi hg hb hs).imp fun D σ H ⟨g, ρ, k, fl, k', R, q, c⟩ => ?_
  dsimp only at q
  cases e : m.src ρ k with
  | none => rw [e] at q; cases q
  | some p =>
    obtain ⟨xs, k1⟩ := p
    rw [e] at q
    refine ⟨g, ρ, k, xs, k1, R, e, fun J g1 H1 n1 it => ?_⟩
    refine ⟨fun i m σ H => m = xs.length - i ∧ i ≤ xs.length ∧ ForInv X.K F t fb xs g1 fl k' i σ H, ⟨xs.length, by simp, Nat.zero_le _, ⟨g1, ρ, k1, n1.rel, Same.refl _, by simpa using q⟩⟩, ?_⟩
    rintro i m σ2 H2 ⟨rfl, hi, ⟨g2, ρ2, k2, R2, s2, hl⟩⟩
    obtain ⟨step, stop⟩ := it g2 H2 σ2 ρ2 k2 R2 s2
    by_cases hlt : i < xs.length
    · have hx : xs[i]? = some xs[i] := List.getElem?_eq_getElem hlt
      obtain ⟨go, yl⟩ := step i _ hx
      rw [List.drop_eq_getElem_cons hlt] at hl
      refine .inr ⟨go, fun σ3 H3 => ForInv X.K F t fb xs g1 fl k' (i + 1) σ3 H3, fun σ' H' p' => ⟨xs.length - (i + 1), by omega, rfl, hlt, p'⟩, fun x H3 y => ?_⟩
      obtain ⟨g3, n3, rd⟩ := yl x H3 y
      simp only [forL] at hl
      split at hl
      · cases hl
      · rename_i ρ3 hset
        refine gT_ok n3.rel rd hset fun σ3 Rs sa => ?_
        cases eb : fb ρ3 k2 with
        | none => rw [eb] at hl; cases hl
        | some p =>
          obtain ⟨fl1, k4⟩ := p
          rw [eb] at hl
          refine ⟨g3, ρ3, k2, fl1, k4, Rs, eb, ?_⟩
          have s3 := s2.trans n3.sub
          cases fl1 with
          | nx ρ4 => exact fun σ4 g4 H4 R4 s4 => ⟨g4, ρ4, k4, R4, s3.trans s4, hl⟩
          | ct ρ4 => exact fun σ4 g4 H4 R4 s4 => ⟨g4, ρ4, k4, R4, s3.trans s4, hl⟩
          | bk ρ4 => cases hl; exact fun σ4 g4 H4 R4 s4 => c σ4 g4 H4 R4 ((n1.sub.trans s3).trans s4)
          | rt v => cases hl; exact fun v g4 H4 σ4 ρ4 R4 s4 => c v g4 H4 σ4 ρ4 R4 ((n1.sub.trans s3).trans s4)
    · have e : i = xs.length := by omega
      subst e
      rw [List.drop_length] at hl
      cases hl
      exact .inl ⟨stop, c σ2 g2 H2 R2 (n1.sub.trans s2)⟩
/-- while -/
theorem pS_while {t : Expr} {body : List Stmt} {ft : Cm Bool} {fb : Cs} {N : Nat} (hp : PassesOwn (model X.prog X.w) X.A X.env X.xe) (ht : PT X t (tT X.K F ft)) (hb : PSs X body (tS X.K F fb)) : PS X (.While t body [] pos) (tS X.K F (whileL ft fb N)) := by
  refine (ps_while hp ht hb).imp fun D σ H ⟨g, ρ, k, fl, k', R, q, c⟩ => ?_
  refine ⟨fun m σ H => ∃ g2 ρ2 k2, Rel X.K F g2 H σ ρ2 k2 ∧ Same g.G g2.G ∧ whileL ft fb m ρ2 k2 = some (fl, k'), ⟨N, g, ρ, k, R, Same.refl _, q⟩, ?_⟩
  rintro m σ2 H2 ⟨g2, ρ2, k2, R2, s2, hl⟩
  cases m with
  | zero => cases hl
  | succ m =>
    simp only [whileL] at hl
    cases e : ft ρ2 k2 with
    | none => rw [e] at hl; cases hl
    | some p =>
      obtain ⟨x, k1⟩ := p
      rw [e] at hl
      refine ⟨g2, ρ2, k2, x, k1, R2, e, fun g3 H3 n3 => ?_⟩
      cases x with
      | false =>
        cases hl
        exact iteF (c σ2 g3 H3 n3.rel (s2.trans n3.sub))
      | true =>
        refine iteT ⟨fun σ' H' => ∃ g2 ρ2 k2, Rel X.K F g2 H' σ' ρ2 k2 ∧ Same g.G g2.G ∧ whileL ft fb m ρ2 k2 = some (fl, k'), fun σ' H' z => ⟨m, Nat.lt_succ_self _, z⟩, ?_⟩
        dsimp only at hl
        cases eb : fb ρ2 k1 with
        | none => rw [eb] at hl; cases hl
        | some p =>
          obtain ⟨fl1, k4⟩ := p
          rw [eb] at hl
          refine ⟨g3, ρ2, k1, fl1, k4, n3.rel, eb, ?_⟩
          have s3 := s2.trans n3.sub
          cases fl1 with
          | nx ρ4 => exact fun σ4 g4 H4 R4 s4 => ⟨g4, ρ4, k4, R4, s3.trans s4, hl⟩
          | ct ρ4 => exact fun σ4 g4 H4 R4 s4 => ⟨g4, ρ4, k4, R4, s3.trans s4, hl⟩
          | bk ρ4 => cases hl; exact fun σ4 g4 H4 R4 s4 => c σ4 g4 H4 R4 (s3.trans s4)
          | rt v => cases hl; exact fun v g4 H4 σ4 ρ4 R4 s4 => c v g4 H4 σ4 ρ4 R4 (s3.trans s4)
end
end TA

set_option maxHeartbeats 4000000
/-! More statements: several targets, op=, append, pop, the deck's. -/
namespace TA
open PySem PySem.Spec PyProof.Rows L2

section
variable {K : PySem.W.Frag} {F : Fm} {g g' : Gh} {H H' : Hp} {σ σ' : L2.St} {ρ ρ' : Env} {k k' : OD} {v : V} {d : PyData} {r : DV}
/-- an owned list gets another content -/
theorem Rel.turnOwn (R : Rel K F g H σ ρ k) {i : Nat} {p : Addr} {xs ys : List PyData} {ws : List V} (e : ρ[i]? = some (some (.own xs))) (es : σ[i]? = some (some (.ref p))) (ra : RdA K g.G ws ys) : Rel K F g (upd H p (.lst ws)) σ (ρ.set i (some (.own ys))) k := by
  obtain ⟨v, h1, p', vs, rfl, h3, h4, h5, h6, h7⟩ := R.slot i _ e
  rw [es] at h1; cases h1
  have hi : i < ρ.length := (List.getElem?_eq_some_iff.mp e).1
  refine ⟨fun b u z => by rw [upd_ne (ne_of_none z h4)]; exact R.sub _ _ z, R.sub0, R.new, fun b u z nd => ?_, fun b z => ?_, fun j x z => ?_, fun j l as bs w hjl e1 e2 e3 => ?_, ?_, by rw [List.length_set]; exact R.len, R.dk0⟩
  · by_cases w : b = p
    · subst w; rw [h7] at z; cases z
    · rw [upd_ne w]; exact R.keep b u z nd
  · by_cases w : b = p
    · subst w; rw [upd_same] at z; cases z
    · rw [upd_ne w] at z; exact R.dom b z
  · rcases set_get z with ⟨rfl, _, rfl⟩ | ⟨w, z⟩
    · exact ⟨_, es, p, ws, rfl, upd_same, h4, ra, h6, h7⟩
    · obtain ⟨v', z1, z2⟩ := R.slot j x z
      refine ⟨v', z1, ?_⟩
      cases x with
      | d y => exact z2
      | own zs =>
        obtain ⟨q', us, rfl, q3, q4, q5, q6, q7⟩ := z2
        refine ⟨q', us, rfl, ?_, q4, q5, q6, q7⟩
        rw [upd_ne]
        · exact q3
        · rintro rfl; exact R.dist i j xs zs _ w e z es z1
      | dk => exact z2
  · have o1 : ∃ as', ρ[j]? = some (some (.own as')) := by
      rcases set_get e1 with ⟨rfl, _, _⟩ | ⟨_, z⟩
      · exact ⟨_, e⟩
      · exact ⟨_, z⟩
    have o2 : ∃ bs', ρ[l]? = some (some (.own bs')) := by
      rcases set_get e2 with ⟨rfl, _, _⟩ | ⟨_, z⟩
      · exact ⟨_, e⟩
      · exact ⟨_, z⟩
    obtain ⟨as', o1⟩ := o1
    obtain ⟨bs', o2⟩ := o2
    exact R.dist j l as' bs' w hjl o1 o2 e3
  · have z := R.deck
    unfold DkRel at z ⊢
    cases ed : g.dA with
    | none =>
      rw [ed] at z
      cases k with
      | none => trivial
      | some w => exact z.elim
    | some ac =>
      obtain ⟨a, c⟩ := ac
      rw [ed] at z
      cases k with
      | none => exact z
      | some w =>
        obtain ⟨z1, z2, z3, z4, z5⟩ : DkAt H g.G a c w := z
        obtain ⟨n1, n2⟩ := h6 a c ed
        exact ⟨z1, z2, z3, by rw [upd_ne (Ne.symm n1)]; exact z4, by rw [upd_ne (Ne.symm n2)]; exact z5⟩
end

section
variable {X : Cx} {F : Fm} {e a b : Expr} {pos : Pos}
/-- a plain unpacking -/
theorem pS_unp {tge : Expr} {is : List Nat} {f : Cm DV} (he : PE X e (tV X.K F f)) (hg : PG X tge (gT X.K (.many is))) (hs : swapsWithSole [tge] e pos.line X.env = pure false) (hw : swappedStores [tge] e X.env = pure none) (h1 : (assignEach [tge] X.env).map (·.2) = [assign tge X.env]) :
    PS X (.Assign [tge] e pos) (tS X.K F fun ρ k => match f ρ k with
      | some (.d (.tuple xs), k1) => match setMany is xs ρ with
        | none => none
        | some ρ' => some (.nx ρ', k1)
      | _ => none) := by
  refine (ps_asg he hg hs hw h1).imp fun D σ H ⟨g, ρ, k, fl, k', R, q, c⟩ => ?_
  dsimp only at q
  split at q
  · rename_i xs k1 hf
    split at q
    · cases q
    · rename_i ρ2 hset
      cases q
      exact ⟨g, ρ, k, _, _, R, hf, fun v g' H' n vr => gT_ok (t := .many is) n.rel (show Rd X.K g'.G v (.tuple xs) from vr) hset fun σ2 R2 _ => c σ2 g' H' R2 n.sub⟩
  · cases q
theorem vals2_imp {m1 m2 : Sm} {i j : Nat} (hij : i ≠ j) {D : Ends} {σ : L2.St} {H : Hp} (h : tS X.K F (fun ρ k => match valsL [m1, m2] ρ k with
      | none => none
      | some (xs, k1) => match setAll [i, j] xs ρ with
        | none => none
        | some ρ' => some (.nx ρ', k1)) D σ H) :
    ∃ g ρ k r1 k1, Rel X.K F g H σ ρ k ∧ m1.v ρ k = some (r1, k1) ∧ ∀ v g1 H1, Nxt X.K F g H g1 H1 σ ρ k1 → VR X.K H g1 H1 v r1 → ∃ r2 k2, m2.v ρ k1 = some (r2, k2) ∧ ∀ w g2 H2, Nxt X.K F g1 H1 g2 H2 σ ρ k2 → VR X.K H1 g2 H2 w r2 →
      ∀ g3 H3, Nxt X.K F g2 H2 g3 H3 σ ρ k2 → D.nx ((σ.set i (some v)).set j (some w)) H3 := by
  obtain ⟨g, ρ, k, fl, k', R, q, c⟩ := h
  dsimp only at q
  split at q
  · cases q
  · rename_i xs k2 hv
    split at q
    · cases q
    · rename_i ρ2 hset
      cases q
      obtain ⟨r1, k1, q1, qa⟩ := bnd_some (show (m1.v.bnd fun x => (valsL [m2]).bnd fun xs => .ret (x :: xs)) ρ k = _ from hv)
      obtain ⟨rs, k3, q2, qb⟩ := bnd_some qa
      obtain ⟨e3, e4⟩ := ret_some qb
      subst e3 e4
      obtain ⟨r2, k4, q3, qc⟩ := bnd_some (show (m2.v.bnd fun x => (valsL []).bnd fun xs => .ret (x :: xs)) ρ k1 = _ from q2)
      obtain ⟨rs', k5, q4, qd⟩ := bnd_some qc
      obtain ⟨e5, e6⟩ := ret_some qd
      obtain ⟨e7, e8⟩ := ret_some (show Cm.ret [] ρ k4 = _ from q4)
      subst e5 e6 e7 e8
      cases hset
      refine ⟨g, ρ, k, r1, k1, R, q1, fun v g1 H1 n1 vr1 => ⟨r2, _, q3, fun w g2 H2 n2 vr2 g3 H3 n3 => ?_⟩⟩
      have n23 := n2.trans n3
      have n13 := n1.trans n23
      have v1 := vr1.nxt n23
      have v2 := (vr2.nxt n3).of n1.dm
      have R1 := R.setV n13 v1 i
      refine c _ g3 H3 (R1.setS j (v2.sr R) fun xs ex l ys hl e1 e2 => ?_) n13.sub
      subst ex
      obtain ⟨p, vs, rfl, p2, p3, p4, p5, p6⟩ := id vr2
      rcases set_get e1 with ⟨rfl, hi, z⟩ | ⟨z, e1⟩
      · subst z
        obtain ⟨p', vs', rfl, y2, _⟩ := vr1
        rw [List.getElem?_set_self (by rw [← R.len]; exact hi)] at e2
        cases e2
        rw [p6] at y2; cases y2
      · rw [List.getElem?_set_ne z] at e2
        obtain ⟨v', q1', q', ws, rfl, q3', _⟩ := R.slot l _ e1
        rw [e2] at q1'; cases q1'
        rw [n1.dm _ p6] at q3'; cases q3'
  
theorem pS_par2 {i j : Nat} {x y : Str} {m1 m2 : Sm} {px py pt : Pos} {kt k2 : Nat} {pt2 : Pos} (hc : X.calm = true) (hN : X.N.Nodup) (hi : X.N[i]? = some x) (hj : X.N[j]? = some y) (hij : i ≠ j) (hx : X.env.scope.names.lookup x = some .local) (hy : X.env.scope.names.lookup y = some .local)
    (ha : PE X a (tV X.K F m1.v)) (hb : PE X b (tV X.K F m2.v)) (n1 : NoStar X a [b]) (n2 : NoStar X b []) (hw : swappedStores [.Tuple [.Name x px, .Name y py] kt pt] (.Tuple [a, b] k2 pt2) X.env = pure (some [x, y]))
    (hs : swapsWithSole [.Tuple [.Name x px, .Name y py] kt pt] (.Tuple [a, b] k2 pt2) pos.line X.env = pure false) :
    PS X (.Assign [.Tuple [.Name x px, .Name y py] kt pt] (.Tuple [a, b] k2 pt2) pos) (tS X.K F fun ρ k => match valsL [m1, m2] ρ k with
      | none => none
      | some (xs, k1) => match setAll [i, j] xs ρ with
        | none => none
        | some ρ' => some (.nx ρ', k1)) := by
  refine (ps_par hc hN hi hj hij hx hy (pa_cons ha (pa_cons hb pa_nil n2) n1) hw hs).imp fun D σ H h => ?_
  obtain ⟨g, ρ, k, r1, k1, R, q1, c⟩ := vals2_imp hij h
  refine ⟨g, ρ, k, r1, k1, R, q1, fun v g1 H1 n1 vr1 => ?_⟩
  obtain ⟨r2, k2, q2, c⟩ := c v g1 H1 n1 vr1
  exact ⟨g1, ρ, k1, r2, k2, n1.rel, q2, fun w g2 H2 n2 vr2 => ⟨v, w, rfl, c w g2 H2 n2 vr2 g2 H2 (Nxt.refl n2.rel)⟩⟩
theorem pS_par2N {i j : Nat} {tge : Expr} {m1 m2 : Sm} {k2 : Nat} {pt2 : Pos} (hij : i ≠ j) (hg : PG X tge (gT X.K (.many [i, j])))
    (ha : PE X a (tV X.K F m1.v)) (hb : PE X b (tV X.K F m2.v)) (n1 : NoStar X a [b]) (n2 : NoStar X b []) (hs : swapsWithSole [tge] (.Tuple [a, b] k2 pt2) pos.line X.env = pure false) (hw : swappedStores [tge] (.Tuple [a, b] k2 pt2) X.env = pure none) (h1 : (assignEach [tge] X.env).map (·.2) = [assign tge X.env]) :
    PS X (.Assign [tge] (.Tuple [a, b] k2 pt2) pos) (tS X.K F fun ρ k => match valsL [m1, m2] ρ k with
      | none => none
      | some (xs, k1) => match setAll [i, j] xs ρ with
        | none => none
        | some ρ' => some (.nx ρ', k1)) := by
  refine (ps_asg (pe_tup (pa_cons ha (pa_cons hb pa_nil n2) n1)) hg hs hw h1).imp fun D σ H h => ?_
  obtain ⟨g, ρ, k, r1, k1, R, q1, c⟩ := vals2_imp hij h
  refine ⟨g, ρ, k, r1, k1, R, q1, fun v g1 H1 n1 vr1 => ?_⟩
  obtain ⟨r2, k2, q2, c⟩ := c v g1 H1 n1 vr1
  refine ⟨g1, ρ, k1, r2, k2, n1.rel, q2, fun w g2 H2 n2 vr2 => ⟨by show 2 ≤ sizeLine; decide, fun p hp => ?_⟩⟩
  exact ⟨p, [v, w], rfl, .inl (.inl upd_same), rfl, v, [w], rfl, w, [], rfl, rfl, c w g2 H2 n2 vr2 g2 _ (n2.rel.layO hp)⟩
/-- x op= e of whole numbers -/
theorem ip_bin (op : Operator) (hop : op ≠ .Pow) : PIp X op (fun x y H Q => ∃ i j z, x = .int i ∧ y = .int j ∧ binD op (.int i) (.int j) = some (.d (.int z)) ∧ Q (.int z) H) := by
  rintro pins s σ H x y v u Q I rx ry ⟨i, j, z, rfl, rfl, hb, q⟩
  cases op with
  | Add => cases hb; exact iop_add pins s σ H _ _ v u Q I rx ry ⟨_, _, rfl, rfl, q⟩
  | Sub => cases hb; exact iop_sub pins s σ H _ _ v u Q I rx ry ⟨_, _, rfl, rfl, q⟩
  | Mult =>
    simp only [binD] at hb
    split at hb
    · rename_i hs
      cases hb
      rw [Bool.or_eq_true] at hs
      exact iop_mul pins s σ H _ _ v u Q I rx ry ⟨_, _, rfl, rfl, hs.imp smallI_iff smallI_iff, q⟩
    · cases hb
  | FloorDiv =>
    simp only [binD] at hb
    split at hb
    · rename_i hs
      cases hb
      exact iop_fdiv pins s σ H _ _ v u Q I rx ry ⟨_, _, rfl, rfl, hs, q⟩
    · cases hb
  | Mod =>
    simp only [binD] at hb
    split at hb
    · rename_i hs
      cases hb
      exact iop_mod pins s σ H _ _ v u Q I rx ry ⟨_, _, rfl, rfl, hs, q⟩
    · cases hb
  | Pow => exact absurd rfl hop
  | _ => cases hb
theorem pS_app {i : Nat} {f : Cm DV} {ap p : Pos} (hv : PE X a (tVar i)) (he : PE X e (tV X.K F f)) (ns : NoStar X e []) (hbase : attributeBase a "append" X.env (eval a X.env) = eval a X.env) (hline : (ap.endLine == p.line) = true)
    (hfew : ((backTo p (starEach [e] X.env)).all (fun x => !x.1) && (backToKw p (keywordEach [] X.env)).all (fun x => x.1.isSome) && decide ([e].length + ([] : List Keyword).length + (if ([] : List Keyword).isEmpty then 0 else 1) < 30)) = true)
    (hpl : (backTo p (starEach [] X.env)).any (·.1) = false) :
    PS X (.Expr (.Call (.Attribute a "append" ap) [e] [] p) pos) (tS X.K F fun ρ k => match f ρ k with
      | none => none
      | some (x, k1) => match x.dat, ρ[i]? with
        | some d, some (some (.own xs)) => if xs.length < sizeLine then some (.nx (ρ.set i (some (.own (xs ++ [d])))), k1) else none
        | _, _ => none) := by
  refine (ps_expr (pe_bm PySem.F.plainAttrs_list PySem.F.slot_list_append PySem.F.type_list_append mt_append hv (pa_cons he pa_nil ns) hbase hfew hline ns hpl) rfl).imp fun D σ H ⟨g, ρ, k, fl, k', R, q, c⟩ => ?_
  dsimp only at q
  split at q
  · cases q
  · rename_i x k1 hf
    split at q
    · rename_i d xs hd hx
      split at q
      · rename_i hz
        cases q
        obtain ⟨v, h1, p, vs, rfl, h3, h4, h5, h6, h7⟩ := R.slot i _ hx
        refine ⟨_, h1, .inl ⟨rfl, vs, SqL.of h3⟩, g, ρ, k, x, _, R, hf, fun w g1 H1 n1 vr => ?_⟩
        obtain ⟨g2, n2, rd, _⟩ := n1.asData R vr hd
        obtain ⟨v', z1, p', vs', z2, z3, z4, z5, z6, z7⟩ := n2.rel.slot i _ hx
        rw [h1] at z1; cases z1; cases z2
        refine ⟨p, vs', w, rfl, rfl, z3, by rw [z5.length]; exact hz, ?_⟩
        exact c _ g2 _ (n2.rel.turnOwn hx h1 (z5.append (.cons rd .nil))) n2.sub
      · cases q
    · cases q
theorem seqIx {n : Nat} {i : Int} (h0 : 0 ≤ i) (h1 : i < n) : seqIndex? i n = some i.toNat := PySem.StrLaws.seqIndex_nonneg h0 h1
theorem pS_popAt {i j : Nat} {y : Str} {f : Cm PyData} {ap p py : Pos} (hN : X.N.Nodup) (hj : X.N[j]? = some y) (hy : Loc X.env.scope y) (hfy : X.fn y = true ∨ X.env.scope.names.lookup y = some .local) (hv : PE X a (tVar i)) (he : PE X e (tO X.K F f)) (ns : NoStar X e []) (hbase : attributeBase a "pop" X.env (eval a X.env) = eval a X.env) (hline : (ap.endLine == p.line) = true)
    (hfew : ((backTo p (starEach [e] X.env)).all (fun x => !x.1) && (backToKw p (keywordEach [] X.env)).all (fun x => x.1.isSome) && decide ([e].length + ([] : List Keyword).length + (if ([] : List Keyword).isEmpty then 0 else 1) < 30)) = true)
    (hpl : (backTo p (starEach [] X.env)).any (·.1) = false) :
    PS X (.Assign [.Name y py] (.Call (.Attribute a "pop" ap) [e] [] p) pos) (tS X.K F fun ρ k => match f ρ k with
      | some (.int n, k1) => match ρ[i]? with
        | some (some (.own xs)) => if 0 ≤ n ∧ n < xs.length ∧ n < 1000000 ∧ i ≠ j then match xs[n.toNat]? with
            | some y => some (.nx ((ρ.set i (some (.own (xs.eraseIdx n.toNat)))).set j (some (.d y))), k1)
            | none => none
          else none
        | _ => none
      | _ => none) := by
  refine (ps_set hN hj hy (pe_bm PySem.F.plainAttrs_list PySem.F.slot_list_pop PySem.F.type_list_pop mt_popAt hv (pa_cons he pa_nil ns) hbase hfew hline ns hpl) rfl hfy).imp fun D σ H ⟨g, ρ, k, fl, k', R, q, c⟩ => ?_
  dsimp only at q
  split at q
  · rename_i n k1 hf
    split at q
    · rename_i xs hx
      split at q
      · rename_i hc
        split at q
        · rename_i d hd
          cases q
          obtain ⟨v, h1, p, vs, rfl, h3, h4, h5, h6, h7⟩ := R.slot i _ hx
          refine ⟨_, h1, .inl ⟨rfl, vs, SqL.of h3⟩, g, ρ, k, _, _, R, hf, fun w g1 H1 n1 o1 => ?_⟩
          obtain ⟨v', z1, p', vs', z2, z3, z4, z5, z6, z7⟩ := n1.rel.slot i _ hx
          rw [h1] at z1; cases z1; cases z2
          obtain ⟨u, u1, u2⟩ := z5.get hd
          have hlen : n < vs'.length := by rw [z5.length]; exact hc.2.1
          refine ⟨p, vs', n, n.toNat, u, rfl, by rw [o1.int], z3, by omega, ?_, seqIx hc.1 hlen, u1, ?_⟩
          · omega
          · exact c _ g1 _ ((n1.rel.turnOwn hx h1 (z5.erase _)).setD j u2) n1.sub
        · cases q
      · cases q
    · cases q
  · cases q
/-- deck[2] = e -/
theorem pS_dkSet {i j : Nat} {f : Cm PyData} {p p1 : Pos} (hv : PE X a (tVar i)) (he : PE X e (tO X.K F f)) (hs : swapsWithSole [.Subscript a (.Constant (.int 2) j p) p1] e pos.line X.env = pure false) (hw : swappedStores [.Subscript a (.Constant (.int 2) j p) p1] e X.env = pure none) :
    PS X (.Assign [.Subscript a (.Constant (.int 2) j p) p1] e pos) (tS X.K F fun ρ k => match f ρ k with
      | some (.int n, some q) => match ρ[i]? with
        | some (some .dk) => some (.nx ρ, some { q with cnt := n })
        | _ => none
      | _ => none) := by
  refine (ps_asg he (pg_sub hv pe_int set_list (by intro _; rfl)) hs hw rfl).imp fun D σ H ⟨g, ρ, k, fl, k', R, q, c⟩ => ?_
  dsimp only at q
  split at q
  · rename_i n dk hf
    split at q
    · rename_i hx
      cases q
      refine ⟨g, ρ, k, _, _, R, hf, fun w g1 H1 n1 o1 => ?_⟩
      obtain ⟨v, h4, a', c', h5, rfl⟩ := n1.rel.slot i _ hx
      obtain ⟨z1, z2, z3, z4, z5⟩ := n1.rel.dkAt h5
      refine ⟨_, h4, a', _, _, 2, rfl, rfl, z4, rfl, ?_⟩
      refine c _ g1 _ (n1.rel.dkTurn h5 (.inl rfl) ⟨z1, z2, z3, ?_, ?_⟩).rel n1.sub
      · rw [upd_same, o1.int]; rfl
      · rw [upd_ne (Ne.symm z1)]; exact z5
    · cases q
  · cases q
theorem pS_dkPush {i j : Nat} {f : Cm PyData} {p p1 ap p2 : Pos} (hv : PE X a (tVar i)) (he : PE X e (tO X.K F f)) (hsx : PlainIx (.Constant (.int 0) j p)) (ns : NoStar X e [])
    (hbase : attributeBase (.Subscript a (.Constant (.int 0) j p) p1) "append" X.env (eval (.Subscript a (.Constant (.int 0) j p) p1) X.env) = eval (.Subscript a (.Constant (.int 0) j p) p1) X.env) (hline : (ap.endLine == p2.line) = true)
    (hfew : ((backTo p2 (starEach [e] X.env)).all (fun x => !x.1) && (backToKw p2 (keywordEach [] X.env)).all (fun x => x.1.isSome) && decide ([e].length + ([] : List Keyword).length + (if ([] : List Keyword).isEmpty then 0 else 1) < 30)) = true)
    (hpl : (backTo p2 (starEach [] X.env)).any (·.1) = false) :
    PS X (.Expr (.Call (.Attribute (.Subscript a (.Constant (.int 0) j p) p1) "append" ap) [e] [] p2) pos) (tS X.K F fun ρ k => match f ρ k with
      | some (.int n, some q) => match ρ[i]? with
        | some (some .dk) => if q.cells.length < sizeLine then some (.nx ρ, some { q with cells := q.cells ++ [n] }) else none
        | _ => none
      | _ => none) := by
  refine (ps_expr (pe_bm PySem.F.plainAttrs_list PySem.F.slot_list_append PySem.F.type_list_append mt_append (pe_ix ix_list hv pe_int hsx) (pa_cons he pa_nil ns) hbase hfew hline ns hpl) rfl).imp fun D σ H ⟨g, ρ, k, fl, k', R, q, c⟩ => ?_
  dsimp only at q
  split at q
  · rename_i n dk hf
    split at q
    · rename_i hx
      split at q
      · rename_i hz
        cases q
        obtain ⟨v, h4, a', c', h5, rfl⟩ := R.slot i _ hx
        cases k with
        | none =>
          have := R.deck
          unfold DkRel at this
          rw [h5] at this
          exact this.elim
        | some dk0 =>
        obtain ⟨y1, y2, y3, y4, y5⟩ := R.dkAt h5
        refine ⟨_, h4, a', _, _, .ref c', rfl, rfl, SqL.of y4, rfl, .inl ⟨rfl, _, SqL.of y5⟩, g, ρ, _, _, _, R, hf, fun w g1 H1 n1 o1 => ?_⟩
        obtain ⟨v', w4, a2, c2, w5, w6⟩ := n1.rel.slot i _ hx
        have hd : g1.dA = some (a', c') := by
          rcases n1.dle with z | ⟨z, _⟩
          · exact z.trans h5
          · rw [h5] at z; cases z
        obtain ⟨z1, z2, z3, z4, z5⟩ := n1.rel.dkAt hd
        refine ⟨c', _, _, rfl, rfl, z5, by rw [List.length_map]; exact hz, ?_⟩
        refine c _ g1 _ (n1.rel.dkTurn hd (.inr rfl) ⟨z1, z2, z3, ?_, ?_⟩).rel n1.sub
        · rw [upd_ne z1]; exact z4
        · rw [upd_same, o1.int, List.map_append]; rfl
      · cases q
    · cases q
  · cases q
theorem pS_aug {i : Nat} {x : Str} {f : Cm PyData} {op : Operator} {pos' : Pos} (hop : op ≠ .Pow) (hN : X.N.Nodup) (hi : X.N[i]? = some x) (hx : Loc X.env.scope x) (he : PE X e (tO X.K F f)) (hf : X.fn x = true ∨ X.env.scope.names.lookup x = some .local) :
    PS X (.AugAssign (.Name x pos') op e pos) (tS X.K F fun ρ k => match varO i ρ k with
      | some (x, _) => match f ρ k with
        | some (y, k1) => match binD op x y with
          | some (.d (.int z)) => some (.nx (ρ.set i (some (.d (.int z)))), k1)
          | _ => none
        | none => none
      | none => none) := by
  refine (ps_aug hN hi hx he (ip_bin op hop) hf).imp fun D σ H ⟨g, ρ, k, fl, k', R, q, c⟩ => ?_
  dsimp only at q
  split at q
  · rename_i x _ hv
    split at q
    · rename_i y k1 hy
      split at q
      · rename_i z hz
        cases q
        have hint : ∃ a b, x = .int a ∧ y = .int b := by
          unfold binD at hz
          split at hz <;> first | exact ⟨_, _, rfl, rfl⟩ | (split at hz <;> cases hz) | cases hz
        obtain ⟨a, b, rfl, rfl⟩ := hint
        unfold varO at hv
        split at hv
        · rename_i w hw
          cases hv
          obtain ⟨v, h1, h2⟩ := R.slot i _ hw
          cases h2
          exact ⟨_, h1, g, ρ, k, _, _, R, hy, fun u g1 H1 n1 o1 => ⟨_, _, z, rfl, o1.int, hz, c _ g1 H1 (n1.rel.setD i (Rd.int z)) n1.sub⟩⟩
        · cases hv
        · cases hv
      · cases q
    · cases q
  · cases q
theorem pS_setLc {i : Nat} {y : Str} {py pos0 : Pos} {elt tge iter : Expr} {ifs : List Expr} {scope : Scope} {own : List (Str × Nat)} {t : Tg} {fe : Cm DV} {fc : Cm Bool} {m : Sm} (hc : X.calm = true) (hN : X.N.Nodup) (hy : X.N[i]? = some y) (hyl : X.env.scope.names.lookup y = some .local)
    (hsw : swapsWith (.ListComp elt [⟨tge, iter, ifs, 0⟩] scope pos) (some (.Name y py)) pos0.line X.env = pure true) (hi : PI X tge iter (tI X.K F m.src)) (ok : BlkOk X.N X.env.scope scope own) (how : own.map (·.2) = t.slots)
    (hg : ∀ s H C cl fp, PG (blkX X s H scope C cl fp) tge (gT X.K t)) (ht : ∀ s H C cl fp, PTs (blkX X s H scope C cl fp) ifs (tT X.K F fc)) (he : ∀ s H C cl fp, PE (blkX X s H scope C cl fp) elt (tV X.K F fe)) (hs : ∀ x, foldedSetIterable iter X.env x = pure x) :
    PS X (.Assign [.Name y py] (.ListComp elt [⟨tge, iter, ifs, 0⟩] scope pos) pos0) (tS X.K F fun ρ k => match (m.src.bnd fun xs => (compL t fe fc xs).bnd fun ys => Cm.ret (.own ys)) ρ k with
      | none => none
      | some (x, k1) => some (.nx (ρ.set i (some x)), k1)) := by
  refine (ps_setLc hc hN hy hyl hsw hi ok hg ht he hs).imp fun D σ H h => ?_
  rw [how]
  have q := set_imp h
  obtain ⟨g, ρ, k, r, k', R, q, c⟩ := q
  exact comp_imp src_le ⟨g, ρ, k, r, k', R, q, c⟩
/-- the deck comes into being: return [cells, total, 0] -/
theorem pS_retDk {cx : Expr} {p : Pos} {ma mb mc : Sm} (ha : PE X a (tV X.K F ma.v)) (hb : PE X b (tV X.K F mb.v)) (hc : PE X cx (tV X.K F mc.v)) (n1 : NoStar X a [b, cx]) (n2 : NoStar X b [cx]) (n3 : NoStar X cx []) :
    PS X (.Return (some (.List [a, b, cx] p)) pos) (tS X.K F fun ρ k => match ma.v ρ k with
      | some (.own xs, none) => match intsD xs, mb.v ρ none, mc.v ρ none with
        | some ns, some (.d (.int t), none), some (.d (.int n), none) => some (.rt .dk, some ⟨ns, t, n⟩)
        | _, _, _ => none
      | _ => none) := by
  refine (ps_ret (pe_lst (pa_cons ha (pa_cons hb (pa_cons hc pa_nil n3) n2) n1))).imp fun D σ H ⟨g, ρ, k, fl, k', R, q, c⟩ => ?_
  dsimp only at q
  split at q
  · rename_i xs hf
    split at q
    · rename_i ns t n h1 h2 h3
      cases q
      refine ⟨g, ρ, k, _, _, R, hf, fun v g1 H1 n1 vr => ⟨g1, ρ, _, _, _, n1.rel, h2, fun w g2 H2 n2 vr2 => ⟨g2, ρ, _, _, _, n2.rel, h3, fun u g3 H3 n3 vr3 => ⟨by show 3 ≤ sizeLine; decide, fun p hp => ?_⟩⟩⟩⟩
      have n23 := n2.trans n3
      have n13 := n1.trans n23
      obtain ⟨pc, vs, rfl, q2, q3, q4, q5, q6⟩ := vr.nxt n23
      cases (show Rd X.K g2.G w (.int t) from vr2)
      cases (show Rd X.K g3.G u (.int n) from vr3)
      have R3 := n13.rel
      have d3 : g3.dA = none := by
        have z := R3.deck
        unfold DkRel at z
        cases e : g3.dA with
        | none => rfl
        | some ac => rw [e] at z; exact z.elim
      have hne : p ≠ pc := fun z => by subst z; rw [hp] at q2; cases q2
      have hint := q4.ints h1
      subst hint
      have hpG := R3.free hp
      refine c (.ref p) { g3 with dA := some (p, pc) } _ σ (List.replicate σ.length none) ?_ n13.sub ⟨p, pc, rfl, rfl⟩
      have kn : ∀ {x : Addr} {o : HO}, H3 x = some o → x ≠ p := fun z => ne_of_none z hp
      have noSlot : ∀ {j : Nat} {x : DV}, (List.replicate σ.length (none : Option DV))[j]? = some (some x) → False := fun {j x} e => by
        rw [List.getElem?_replicate] at e
        split at e <;> cases e
      refine ⟨fun x o z => by rw [upd_ne (kn (R3.sub _ _ z))]; exact R3.sub _ _ z, R3.sub0, R3.new, fun x o z nd => ?_, fun x z => ?_, fun j x e => (noSlot e).elim, fun j l as bs w hjl e1 _ _ => (noSlot e1).elim, ?_, by simp, ?_⟩
      · have := R3.keep x o z (by rw [d3]; exact fun _ _ w => nomatch w)
        rw [upd_ne (kn this)]; exact this
      · by_cases w : x = p
        · subst w; rw [upd_same] at z; cases z
        · rw [upd_ne w] at z; exact R3.dom x z
      · exact ⟨hne, hpG, q3, upd_same, by rw [upd_ne (Ne.symm hne)]; exact q2⟩
      · refine .inr ⟨?_, p, pc, rfl, R3.dom _ hp, R.dom _ q6⟩
        rcases R3.dk0 with z | ⟨z, _⟩
        · rw [← z]; exact d3
        · exact z
    · cases q
  · cases q
end
end TA

set_option maxHeartbeats 4000000
/-! Defs and calls. -/
namespace TA
open PySem PySem.Spec PyProof.Rows L2

/-- behind a call -/
structure Post (K : PySem.W.Frag) (g : Gh) (H : Hp) (g' : Gh) (H' : Hp) (k' : OD) (v : V) (r : DV) : Prop where
  sub : Same g'.G H'
  gs : Same g.G g'.G
  keep : ∀ b o, H b = some o → NotDk g'.dA b → H' b = some o
  nf : ∀ b o, g'.G b = some o → g.G b = some o ∨ H b = none
  dm : ∀ b, H' b = none → H b = none
  dle : g'.dA = g.dA ∨ (g.dA = none ∧ ∃ a c, g'.dA = some (a, c) ∧ H a = none ∧ H c = none)
  deck : DkRel g' H' k'
  res : VR K H g' H' v r
/-- a def's promise: what the small language says -/
def spD (K : PySem.W.Frag) (n : Nat) (f : List DV → OD → Option (DV × OD)) : Sp := fun vs H Q _ => ∃ g xs k r k', Same g.G H ∧ DkRel g H k ∧ ARs K g vs xs ∧ xs.length = n ∧ f xs k = some (r, k') ∧ ∀ v g' H', Post K g H g' H' k' v r → Q v H'
theorem ARs.length {K : PySem.W.Frag} {g : Gh} : ∀ {vs : List V} {xs : List DV}, ARs K g vs xs → vs.length = xs.length
  | [], [], _ => rfl
  | _ :: _, _ :: _, h => by rw [List.length_cons, List.length_cons, ARs.length h.2]
  | [], _ :: _, h => h.elim
  | _ :: _, [], h => h.elim
/-- the caller goes on -/
theorem call_nxt {K : PySem.W.Frag} {F : Fm} {g g' : Gh} {H H' : Hp} {σ : L2.St} {ρ : Env} {k k' : OD} {v : V} {r : DV} (R : Rel K F g H σ ρ k) (P : Post K g H g' H' k' v r) : Nxt K F g H g' H' σ ρ k' := by
  have nd : ∀ {p : Addr} {o : HO}, H p = some o → NotDk g.dA p → NotDk g'.dA p := fun {p o} e h => by
    rcases P.dle with z | ⟨_, a, c, z1, z2, z3⟩
    · rw [z]; exact h
    · intro a' c' z4
      rw [z1] at z4; cases z4
      constructor
      · rintro rfl; rw [e] at z2; cases z2
      · rintro rfl; rw [e] at z3; cases z3
  have dn : ∀ {p : Addr}, NotDk g'.dA p → NotDk g.dA p := fun {p} h => by
    rcases P.dle with z | ⟨z, _⟩
    · rw [← z]; exact h
    · rw [z]; exact fun _ _ w => nomatch w
  refine ⟨⟨P.sub, R.sub0.trans P.gs, fun b o e => ?_, fun b o e h => P.keep b o (R.keep b o e (dn h)) h, fun b e => R.dom b (P.dm b e), fun i x e => ?_, R.dist, P.deck, R.len, ?_⟩, P.gs, P.dle, P.dm, P.keep, P.nf⟩
  · rcases P.nf b o e with z | z
    · exact R.new b o z
    · exact .inr (R.dom b z)
  · obtain ⟨w, h1, h2⟩ := R.slot i x e
    refine ⟨w, h1, ?_⟩
    cases x with
    | d y => exact (show Rd K g.G w y from h2).mono P.gs
    | own xs =>
      obtain ⟨p, vs, rfl, q3, q4, q5, q6, q7⟩ := h2
      refine ⟨p, vs, rfl, P.keep p _ q3 (nd q3 q6), ?_, q5.mono P.gs, nd q3 q6, q7⟩
      cases e : g'.G p with
      | none => rfl
      | some u =>
        rcases P.nf p u e with z | z
        · rw [q4] at z; cases z
        · rw [q3] at z; cases z
    | dk =>
      obtain ⟨a, c, h3, h4⟩ := h2
      rcases P.dle with z | ⟨z, _⟩
      · exact ⟨a, c, z.trans h3, h4⟩
      · rw [h3] at z; cases z
  · rcases P.dle with z | ⟨z, a, c, z1, z2, z3⟩
    · rw [z]; exact R.dk0
    · refine .inr ⟨?_, a, c, z1, R.dom _ z2, R.dom _ z3⟩
      rcases R.dk0 with y | ⟨y, _⟩
      · rw [← y]; exact z
      · exact y
/-- a def's entry -/
theorem begin_rel {K : PySem.W.Frag} {g : Gh} {H : Hp} {k : OD} {N : List Str} {d : FD} {vs : List V} {xs : List DV} (hs : Same g.G H) (hk : DkRel g H k) (ha : ARs K g vs xs) (hn : d.nn = N.length) : Rel K ⟨g.G, H, g.dA⟩ g H (start N vs) (begin d xs) k := by
  have hl := ha.length
  have get : ∀ (i : Nat) x, (begin d xs)[i]? = some (some x) → xs[i]? = some x := fun i x e => by
    unfold begin at e
    by_cases hi : i < xs.length
    · rw [List.getElem?_append_left (by simpa using hi), List.getElem?_map] at e
      cases q : xs[i]? with
      | none => rw [q] at e; cases e
      | some y => rw [q] at e; cases e; rfl
    · rw [List.getElem?_append_right (by simpa using hi), List.getElem?_replicate] at e
      split at e <;> cases e
  have arg : ∀ {vs : List V} {xs : List DV} (i : Nat) x, ARs K g vs xs → xs[i]? = some x → ∃ v, vs[i]? = some v ∧ AR K g v x := fun {vs xs} => by
    induction xs generalizing vs with
    | nil => intro i x _ e; simp at e
    | cons y ys ih =>
      intro i x h e
      cases vs with
      | nil => exact h.elim
      | cons w ws =>
        cases i with
        | zero => simp at e; subst e; exact ⟨w, rfl, h.1⟩
        | succ i =>
          obtain ⟨v, h1, h2⟩ := ih i x h.2 (by simpa using e)
          exact ⟨v, by simpa using h1, h2⟩
  refine ⟨hs, Same.refl _, fun b o e => .inl e, fun b o e _ => e, fun b e => e, fun i x e => ?_, fun i j as bs w hij e1 _ _ => ?_, hk, ?_, .inl rfl⟩
  · obtain ⟨v, h1, h2⟩ := arg i x ha (get i x e)
    refine ⟨v, ?_, ?_⟩
    · unfold L2.start
      have hi := (List.getElem?_eq_some_iff.mp h1).1
      rw [List.getElem?_append_left (by simpa using hi), List.getElem?_map, h1]; rfl
    · cases x with
      | d y => exact h2
      | own _ => exact h2.elim
      | dk => exact h2
  · obtain ⟨v, h1, h2⟩ := arg i _ ha (get i _ e1)
    exact h2.elim
  · unfold begin L2.start
    simp only [List.length_append, List.length_map, List.length_replicate]
    omega
theorem post_of {K : PySem.W.Frag} {g g' : Gh} {H H' : Hp} {σ : L2.St} {ρ : Env} {k : OD} {v : V} {r : DV} (R : Rel K ⟨g.G, H, g.dA⟩ g' H' σ ρ k) (s : SR K ⟨g.G, H, g.dA⟩ g' H' v r) : Post K g H g' H' k v r := by
  refine ⟨R.sub, R.sub0, R.keep, R.new, R.dom, R.dk0, R.deck, ?_⟩
  cases r with
  | d x => exact s
  | own xs => exact s
  | dk => exact s

/-- a def keeps a promise wherever nothing is being shown -/
structure FnG (P : Program) (w : World) (K : PySem.W.Frag) (mg : Str → Option Value) (base : Heap) (k : Nat) (f : Addr) (fd : FuncData) (ps : List Str) (sp : Sp) : Prop where
  len : ∀ vs H Q E, sp vs H Q E → vs.length = ps.length
  run : ∀ (A : Around) (outer : List PySem.Env) (s : Shared) (H : Hp) (args : Args) (us : List Value) (vs : List V) (Q : VK), Room k A → A.guards = some [] → Env0 P w K mg base A outer s H → BindsTo s fd args (ps.zip us) → Vals vs us → sp vs H Q E0 →
    codeAny (model P w) A (.call (.ref f) args) (CR CX0 outer P w H s Q E0) s
theorem fnG_of {P : Program} {w : World} {K : PySem.W.Frag} {mg : Str → Option Value} {base : Heap} {x qual : Str} {params : Arguments} {body : List Stmt} {scope : Scope} {dvs : List V} {kws : List (Str × V)} {f : Addr} {fd : FuncData}
    {N ps : List Str} {k : Nat} {sp : Sp} (F : FunD K x qual params body scope dvs kws f fd) (S : FnScope N ps scope) (len : ∀ vs H Q E, sp vs H Q E → vs.length = ps.length)
    (hbody : ∀ (cdv : Value) (A : Around) (outer : List PySem.Env) (s : Shared) (H : Hp) (vs : List V) (Q : VK), Room k (A.deeper (envOfC qual scope s.heap.objs.size f cdv)) → A.guards = some [] → sp vs H Q E0 →
      ∃ t, PSs (cxOf CX0 P w K mg base N qual scope f cdv A outer s H E0).nox body t ∧ t { nx := fun _ H' => Q .non H', rt := Q } (start N vs) H) : FnG P w K mg base (k + 1) f fd ps sp := by
  obtain ⟨oc, od, dV, kV, doc, pm, an, cdv, ct, osl, rfl, lk, hcd, _, _⟩ := F.ex
  refine ⟨len, fun A outer s H args us vs Q hr hgd e0 hb r hsp => ?_⟩
  have kin : K.In s.heap := e0.mod.kin.keeps fun b o z => (e0.bs b o z).1
  have free : s.heap.NoLimit := e0.mod.nolimit.keeps fun b o z => (e0.bs b o z).1
  have kinds : ∀ y ∈ ps.zip us, scope.names.lookup y.1 = some .local ∨ (scope.names.lookup y.1 = some .cell ∧ ((cellsFrom (s.heap.objs.size + 1) scope.names []).lookup y.1).isSome = true) := by
    rintro ⟨n, v⟩ hy
    exact (S.par n (List.of_mem_zip hy).1).imp id fun z => ⟨z, PySem.W.cellsFrom_some _ _ _ (.inl z)⟩
  refine codeAny_call_function hr.depth (kin _ _ lk) rfl S.co S.gen rfl (PySem.W.codeRec_of kin hcd) (hb _ _ _ _ ?_)
  refine wpAny_newFunctionEnv_cells S.kind kinds fun env he s1 ic => ?_
  subst he
  obtain ⟨t, ht, hq⟩ := hbody cdv A outer s H vs Q (hr.deeper _) hgd hsp
  have I := inv_start (CX := CX0) (E := E0) S hr.hd e0 (len _ _ _ _ hsp) r ic
  refine ⟨free.keeps ic.toInCall.keep, codeAny_func (wpAny_mono (ht.nox.run [] s1 (start N vs) H _ I hq) (fun fl s' hs => ?_) fun e s' hs => hs)⟩
  cases fl with
  | ret u =>
    obtain ⟨v, σ', H', J, rv, q⟩ := hs
    exact ⟨v, H', J.os, J.bare, J.base, J.hok, rv, q⟩
  | next =>
    obtain ⟨σ', H', J, q⟩ := hs
    exact ⟨.non, H', J.os, J.bare, J.base, J.hok, rfl, q⟩
  | brk =>
    obtain ⟨_, _, _, q⟩ := hs
    exact q.elim
  | cont =>
    obtain ⟨_, _, _, q⟩ := hs
    exact q.elim
section
variable {X : Cx} {F : Fm} {k : Nat} {f : Addr} {fd : FuncData} {ps ks : List Str} {sp : Sp} {x : Str} {p pos : Pos} {e : Expr} {es : List Expr} {t : TA}
theorem run_G {pins : List (Addr × Obj)} {σ : L2.St} {H : Hp} {s : Shared} {Q : VK} {args : Args} {us : List Value} {vs : List V} (G : FnG X.prog X.w X.K X.mg X.base k f fd ps sp) (hr : Room k X.A) (hgd : X.A.guards = some []) (I : Inv X pins σ H s) (hb : BindsTo s fd args (ps.zip us)) (r : Vals vs us) (h : sp vs H Q E0) :
    codeAny (model X.prog X.w) X.A (.call (.ref f) args) (fun r s' => match r with
      | .ok (.ret u) => EP X pins σ Q u s'
      | _ => False) s := by
  refine codeAny_mono (G.run X.A X.stack s H args us vs Q hr hgd I.env0 hb r h) fun r s' hq => ?_
  cases r with
  | error e => exact hq.elim
  | ok fl =>
    cases fl with
    | ret u => exact I.after hq
    | next => exact hq.elim
    | brk => exact hq.elim
    | cont => exact hq.elim
theorem run_GC {pins : List (Addr × Obj)} {σ : L2.St} {H : Hp} {s : Shared} {Q : VK} {us us' : List Value} {kw : List (Str × Value)} {vs : List V} (G : FnG X.prog X.w X.K X.mg X.base k f fd ps sp) (hr : Room k X.A) (hgd : X.A.guards = some []) (I : Inv X pins σ H s) (hb : BindsTo s fd ⟨us, kw⟩ (ps.zip us')) (r : Vals vs us') (h : sp vs H Q E0) :
    wpAny (model X.prog X.w) X.A (call (.ref f) us kw) (EP X pins σ Q) X.xe s :=
  wpAny_call (codeAny_mono (run_G G hr hgd I hb r h) fun r s' hq => by
    cases r with
    | error e => exact False.elim hq
    | ok fl =>
      cases fl with
      | ret u => exact hq
      | next => exact False.elim hq
      | brk => exact False.elim hq
      | cont => exact False.elim hq)
/-- f(e, ..) -/
theorem pG_call (G : FnG X.prog X.w X.K X.mg X.base k f fd ps sp) (hr : Room k X.A) (hgd : X.A.guards = some []) (hg : Gl X x) (hm : X.mg x = some (.ref f)) (hk : PySem.W.keepIn X.K (.ref f) = true) (hb : Binds X.K fd ps []) (ha : PA X (e :: es) t)
    (hdb : (x == ("__debug__" : Str)) = false) (he : NoStar X e es) (hpl : (backTo pos (starEach es X.env)).any (·.1) = false) : PE X (.Call (.Name x p) (e :: es) [] pos) (fun σ H Q => t σ H fun vs H1 => sp vs H1 Q E0) := by
  refine ⟨fun pins s σ H Q I h => ?_⟩
  refine wpAny_Call_Name_kw (ld_glob I hg hm ?_ hdb)
  refine PySem.W.callWith_K (h₀ := X.base) I.ok.mod.kin hk (thn (ha.run pos pins s σ H _ I h) fun us s1 ⟨vs, H1, I1, r, q⟩ => ⟨I1.kIn, ?_⟩) he hpl
  have hl : us.length = ps.length := by rw [← r.length]; exact G.len _ _ _ _ q
  have b := hb s1 us I1.kIn (by simpa using hl)
  rw [List.append_nil] at b
  exact run_GC G hr hgd I1 b r q
theorem pG_call0 (G : FnG X.prog X.w X.K X.mg X.base k f fd ps sp) (hr : Room k X.A) (hgd : X.A.guards = some []) (hg : Gl X x) (hm : X.mg x = some (.ref f)) (hk : PySem.W.keepIn X.K (.ref f) = true) (hb : Binds X.K fd ps []) (hdb : (x == ("__debug__" : Str)) = false) :
    PE X (.Call (.Name x p) [] [] pos) (fun σ H Q => sp [] H Q E0) := by
  refine ⟨fun pins s σ H Q I h => ?_⟩
  refine wpAny_Call_Name_kw (ld_glob I hg hm ?_ hdb)
  have hl : ([] : List Value).length = ps.length := G.len _ _ _ _ h
  have b := hb s [] I.kIn (by simpa using hl)
  rw [List.append_nil] at b
  exact PySem.W.callWith_K0 I.kIn hk (run_GC G hr hgd I b .nil h)
/-- f(k = v, ..): g puts the values in the parameters' order -/
theorem pG_callK {kws : List Keyword} {tk : TA} {g : List Value → List Value} {gV : List V → List V} (G : FnG X.prog X.w X.K X.mg X.base k f fd ps sp) (hr : Room k X.A) (hgd : X.A.guards = some []) (hg : Gl X x) (hm : X.mg x = some (.ref f)) (hk : PySem.W.keepIn X.K (.ref f) = true)
    (hb : ∀ (s : Shared) (ws : List Value), X.K.In s.heap → ws.length = ks.length → BindsTo s fd ⟨[], ks.zip ws⟩ (ps.zip (g ws))) (hrel : ∀ {zs : List V} {ws : List Value}, Vals zs ws → Vals (gV zs) (g ws))
    (hkw : PK X kws tk) (hall : (backToKw pos (keywordEach kws X.env)).all (·.1.isSome) = true) (hks : (backToKw pos (keywordEach kws X.env)).filterMap (·.1) = ks) (hdb : (x == ("__debug__" : Str)) = false)
    (hpl : ((backTo pos (starEach [] X.env)).any (·.1) || (backToKw pos (keywordEach kws X.env)).any (·.1.isNone)) = false) :
    PE X (.Call (.Name x p) [] kws pos) (fun σ H Q => tk σ H fun zs H2 => zs.length = ks.length ∧ sp (gV zs) H2 Q E0) := by
  refine ⟨fun pins s σ H Q I h => ?_⟩
  refine wpAny_Call_Name_kw (ld_glob I hg hm ?_ hdb)
  refine PySem.W.callWith_KW0 (h₀ := X.base) I.ok.mod.kin hk hall (thn (hkw.run pos pins s σ H _ I h) fun ws s2 ⟨zs, H2, I2, rz, l2, q2⟩ => ⟨I2.kIn, ?_⟩) hpl
  rw [hks]
  exact run_GC G hr hgd I2 (hb s2 ws I2.kIn (by rw [← rz.length]; exact l2)) (hrel rz) q2
theorem permL_rel {pm : List Nat} {zs : List V} {ws : List Value} (r : Vals zs ws) : Vals (permL pm zs) (permL pm ws) := by
  unfold permL
  induction pm with
  | nil => exact .nil
  | cons i pm ih =>
    rw [List.filterMap_cons, List.filterMap_cons]
    cases e : zs[i]? with
    | none =>
      rw [r.none_of e]
      exact ih
    | some z =>
      obtain ⟨u, h1, h2⟩ := r.get e
      rw [h1]
      exact .cons h2 ih
theorem permL_ar {K : PySem.W.Frag} {g : Gh} : ∀ {pm : List Nat} {vs : List V} {xs : List DV}, ARs K g vs xs → ARs K g (permL pm vs) (permL pm xs) := fun {pm vs xs} h => by
  have get : ∀ {vs : List V} {xs : List DV} (i : Nat), ARs K g vs xs → (∃ v x, vs[i]? = some v ∧ xs[i]? = some x ∧ AR K g v x) ∨ (vs[i]? = none ∧ xs[i]? = none) := fun {vs xs} => by
    induction xs generalizing vs with
    | nil => intro i h; cases vs with
      | nil => exact .inr ⟨by simp, by simp⟩
      | cons _ _ => exact h.elim
    | cons y ys ih => intro i h; cases vs with
      | nil => exact h.elim
      | cons w ws => cases i with
        | zero => exact .inl ⟨w, y, rfl, rfl, h.1⟩
        | succ i =>
          rcases ih i h.2 with ⟨v, x, h1, h2, h3⟩ | ⟨h1, h2⟩
          · exact .inl ⟨v, x, by simpa using h1, by simpa using h2, h3⟩
          · exact .inr ⟨by simpa using h1, by simpa using h2⟩
  unfold permL
  induction pm with
  | nil => trivial
  | cons i pm ih =>
    rw [List.filterMap_cons, List.filterMap_cons]
    rcases get i h with ⟨v, x, h1, h2, h3⟩ | ⟨h1, h2⟩
    · rw [h1, h2]; exact ⟨h3, ih⟩
    · rw [h1, h2]; exact ih
/-- calls, by what the small language says -/
theorem pv_call {n : Nat} {cl : List DV → OD → Option (DV × OD)} {fa : Cm (List DV)} (G : FnG X.prog X.w X.K X.mg X.base k f fd ps (spD X.K n cl)) (hr : Room k X.A) (hgd : X.A.guards = some []) (hg : Gl X x) (hm : X.mg x = some (.ref f)) (hk : PySem.W.keepIn X.K (.ref f) = true) (hb : Binds X.K fd ps [])
    (hlen : ∀ xs k r, cl xs k = some r → xs.length = n) (ha : PA X (e :: es) (tAs X.K F fa)) (hdb : (x == ("__debug__" : Str)) = false) (he : NoStar X e es) (hpl : (backTo pos (starEach es X.env)).any (·.1) = false) : PE X (.Call (.Name x p) (e :: es) [] pos) (tV X.K F (fa.bnd fun xs => fun _ k => cl xs k)) := by
  refine (pG_call G hr hgd hg hm hk hb ha hdb he hpl).imp fun σ H Q ⟨g, ρ, k, r, k', R, q, c⟩ => ?_
  obtain ⟨xs, k1, q1, qa⟩ := bnd_some q
  exact ⟨g, ρ, k, xs, k1, R, q1, fun vs g1 H1 n1 ar => ⟨g1, xs, k1, r, k', n1.rel.sub, n1.rel.deck, ar, hlen _ _ _ qa, qa, fun v g2 H2 P => c v g2 H2 (n1.trans (call_nxt n1.rel P)) (P.res.of n1.dm)⟩⟩
theorem pv_call0 {n : Nat} {cl : List DV → OD → Option (DV × OD)} (G : FnG X.prog X.w X.K X.mg X.base k f fd ps (spD X.K n cl)) (hr : Room k X.A) (hgd : X.A.guards = some []) (hg : Gl X x) (hm : X.mg x = some (.ref f)) (hk : PySem.W.keepIn X.K (.ref f) = true) (hb : Binds X.K fd ps [])
    (hlen : ∀ xs k r, cl xs k = some r → xs.length = n) (hdb : (x == ("__debug__" : Str)) = false) : PE X (.Call (.Name x p) [] [] pos) (tV X.K F ((argsL []).bnd fun xs => fun _ k => cl xs k)) := by
  refine (pG_call0 G hr hgd hg hm hk hb hdb).imp fun σ H Q ⟨g, ρ, k, r, k', R, q, c⟩ => ?_
  obtain ⟨xs, k1, q1, qa⟩ := bnd_some q
  obtain ⟨rfl, rfl⟩ := ret_some (show Cm.ret [] ρ k = _ from q1)
  exact ⟨g, [], _, r, k', R.sub, R.deck, trivial, hlen _ _ _ qa, qa, fun v g2 H2 P => c v g2 H2 (call_nxt R P) P.res⟩
/-- the keywords' values -/
theorem ks_nil : PK X [] (tAs X.K F (argsL [])) := ⟨fun pos pins s σ H Q I ⟨g, ρ, k, x, k', R, q, c⟩ => by
  obtain ⟨rfl, rfl⟩ := ret_some q
  exact pk_nil.run pos pins s σ H Q I (c [] g H (Nxt.refl R) trivial)⟩
theorem ks_cons {a : Sm} {r : List Sm} {nm : Option Str} {kpos : Pos} {kws : List Keyword} (h : PE X e (tV X.K F a.v)) (hr : PK X kws (tAs X.K F (argsL r))) : PK X (⟨nm, e, kpos⟩ :: kws) (tAs X.K F (argsL (a :: r))) :=
  ⟨fun pos pins s σ H Q I q => (pk_cons h hr).run pos pins s σ H Q I (as_step (fun _ _ _ z => z) q)⟩
theorem pv_callK {kws : List Keyword} {n : Nat} {cl : List DV → OD → Option (DV × OD)} {fa : Cm (List DV)} {pm : List Nat} {o : Option (List Nat)} (ho : ∀ q, o = some q → q = pm) (G : FnG X.prog X.w X.K X.mg X.base k f fd ps (spD X.K n cl)) (hr : Room k X.A) (hgd : X.A.guards = some []) (hg : Gl X x) (hm : X.mg x = some (.ref f)) (hk : PySem.W.keepIn X.K (.ref f) = true)
    (hb : ∀ (s : Shared) (ws : List Value), X.K.In s.heap → ws.length = ks.length → BindsTo s fd ⟨[], ks.zip ws⟩ (ps.zip (permL pm ws))) (hlen : ∀ xs k r, cl xs k = some r → xs.length = n) (hfl : ∀ ρ k xs k', fa ρ k = some (xs, k') → xs.length = ks.length)
    (hkw : PK X kws (tAs X.K F fa)) (hall : (backToKw pos (keywordEach kws X.env)).all (·.1.isSome) = true) (hks : (backToKw pos (keywordEach kws X.env)).filterMap (·.1) = ks) (hdb : (x == ("__debug__" : Str)) = false)
    (hpl : ((backTo pos (starEach [] X.env)).any (·.1) || (backToKw pos (keywordEach kws X.env)).any (·.1.isNone)) = false) : PE X (.Call (.Name x p) [] kws pos) (tV X.K F (fa.bnd fun ys => (Cm.lift o).bnd fun pm => fun _ k => cl (permL pm ys) k)) := by
  refine (pG_callK G hr hgd hg hm hk hb (fun r => permL_rel r) hkw hall hks hdb hpl).imp fun σ H Q ⟨g, ρ, k, r, k', R, q, c⟩ => ?_
  obtain ⟨xs, k1, q1, qa⟩ := bnd_some q
  obtain ⟨pm', k2, q2, qb⟩ := bnd_some qa
  obtain ⟨q2', e2⟩ := lift_some q2
  subst e2
  have := ho _ q2'
  subst this
  refine ⟨g, ρ, k, xs, _, R, q1, fun vs g1 H1 n1 ar => ⟨by rw [ar.length]; exact hfl _ _ _ _ q1, g1, permL pm' xs, _, r, k', n1.rel.sub, n1.rel.deck, permL_ar ar, hlen _ _ _ qb, qb, fun v g2 H2 P => c v g2 H2 (n1.trans (call_nxt n1.rel P)) (P.res.of n1.dm)⟩⟩
end
end TA

set_option maxHeartbeats 4000000
/-! zip(.., strict=True) over two tuples or two lists of one length. -/
namespace TA.ZS
open PySem PySem.Spec PyProof.Rows L2
abbrev SZip (h : Heap) (z u o : Addr) (f : Value) : Prop := h.get? z = some { cls := .type "zip", dict := none, data := .fields #[f, .bool false, .bool true, .ref u, .ref o], slots := #[] }
/-- what is asked of the iterators that zip draws from: It the iterator over l at k, Sq what l holds -/
structure Drw (It : Heap → Addr → Addr → Nat → Prop) (Sq : Heap → Addr → Array Value → Prop) : Prop where
  get : ∀ {h i l k}, It h i l k → ∃ o, h.get? i = some o ∧ ∀ v, o.data ≠ .cell v
  mv : ∀ {h h' i l k}, It h i l k → (∀ o, h.get? i = some o → h'.get? i = some o) → It h' i l k
  mvS : ∀ {h h' l xs}, Sq h l xs → (∀ o, h.get? l = some o → h'.get? l = some o) → Sq h' l xs
  item : ∀ {prog : Program} {w : World} {A : Around} {E : Value → Shared → Prop} {s : Shared} {i l : Addr} {k : Nat} {xs : Array Value} {x : Value} {Q : Value → Shared → Prop}, It s.heap i l k → Sq s.heap l xs → xs[k]? = some x →
    (∀ h', It h' i l (k + 1) → Heap.SameBut i s.heap h' → Q x { s with heap := h' }) → wpAny (model prog w) A (Builtin.SmallTypes.nextOf (.ref i)) Q E s
  fin : ∀ {prog : Program} {w : World} {A : Around} {E : Value → Shared → Prop} {s : Shared} {i l : Addr} {k : Nat} {xs : Array Value} {Q : Value → Shared → Prop}, A.handled = none → It s.heap i l k → Sq s.heap l xs → xs[k]? = none →
    (∀ h' e, Heap.ExtBut i s.heap h' → (∃ o, h'.get? e = some o ∧ o.cls = .type "StopIteration") → E (.ref e) { s with heap := h' }) → wpAny (model prog w) A (Builtin.SmallTypes.nextOf (.ref i)) Q E s
theorem drwT : Drw (fun h i l k => h.IsTupleIter i l k) (fun h l xs => h.IsTuple l xs) where
  get := fun ⟨o, e, _, d⟩ => ⟨o, e, fun v q => by rw [d] at q; cases q⟩
  mv := fun z k => z.at k
  mvS := fun ⟨o, e, r⟩ k => ⟨o, k o e, r⟩
  item := fun a b c d => RZ.nextOf_tuple_item a b c d
  fin := fun a b c d e => RZ.nextOf_tuple_end a b c d e
theorem drwL : Drw (fun h i l k => h.IsListIter i l k) (fun h l xs => h.IsList l xs) where
  get := fun ⟨o, e, _, d⟩ => ⟨o, e, fun v q => by rw [d] at q; cases q⟩
  mv := fun z k => z.at k
  mvS := fun ⟨o, e, r⟩ k => ⟨o, k o e, r⟩
  item := fun a b c d => wpAny_nextOf_list_item a b c d
  fin := fun a b c d e => wpAny_nextOf_list_end a b c d e
section
variable {It : Heap → Addr → Addr → Nat → Prop} {Sq : Heap → Addr → Array Value → Prop} {prog : Program} {w : World} {A : Around} {E : Value → Shared → Prop} {s : Shared}
theorem more {i l : Addr} {k : Nat} {xs : Array Value} {x : Value} {Q : Option Value → Shared → Prop} (W : Drw It Sq) (a : It s.heap i l k) (b : Sq s.heap l xs) (c : xs[k]? = some x) (d : ∀ h', It h' i l (k + 1) → Heap.SameBut i s.heap h' → Q (some x) { s with heap := h' }) :
    wpAny (model prog w) A (Builtin.SmallTypes.nextOrEnd (.ref i)) Q E s := by
  unfold Builtin.SmallTypes.nextOrEnd
  exact wpAny_bind (wpAny_attempt (W.item a b c fun h' e f => wpAny_pure (d h' e f)))
theorem over {i l : Addr} {k : Nat} {xs : Array Value} {Q : Option Value → Shared → Prop} (W : Drw It Sq) (hh : A.handled = none) (a : It s.heap i l k) (b : Sq s.heap l xs) (c : xs[k]? = none) (d : ∀ h', Heap.ExtBut i s.heap h' → Q none { s with heap := h' }) :
    wpAny (model prog w) A (Builtin.SmallTypes.nextOrEnd (.ref i)) Q E s := by
  unfold Builtin.SmallTypes.nextOrEnd
  refine wpAny_bind (wpAny_attempt (W.fin hh a b c fun h' e f ⟨o, z1, z2⟩ => ?_))
  exact wpAny_bind (wpAny_isInstance (T := "StopIteration") (b := true) ⟨o, z1, z2⟩ isSubtype_stop (wpAny_pure (d h' f)))
theorem stops {Q : Fin → Shared → Prop} (hh : A.handled = none) (d : ∀ h' e, (∀ c o, s.heap.get? c = some o → h'.get? c = some o) → (∃ o, h'.get? e = some o ∧ o.cls = .type "StopIteration") → E (.ref e) { s with heap := h' }) :
    wpAny (model prog w) A (Builtin.SmallTypes.stopIteration : Sem Fin) Q E s := by
  show wpAny _ _ (newExc (.type "StopIteration") [] >>= _) _ _ _
  refine wpAny_bind ?_
  simp only [newExc, newTuple]
  refine wpAny_bind (wpAny_newObj_type ?_ (by size_fits))
  refine wpAny_bind (m := firstArgMember _ _) (wpAny_of_eq (a := Value.none) (by first | rfl | (simp only [firstArgMember]; rfl)) ?_)
  refine wpAny_newObj_type ?_ (by size_fits)
  simp only [raiseNew]
  refine wpAny_bind (wpAny_handled ?_)
  rw [hh]
  refine wpAny_bind (wpAny_pure (wpAny_throw ?_))
  exact d _ _ (fun c o e => Heap.get?_push_of_some _ (Heap.get?_push_of_some _ e)) ⟨_, Heap.get?_push_size _ rfl, rfl⟩
theorem next_more {z u o i j l m : Addr} {k : Nat} {xs ys : Array Value} {x y a b : Value} {Q : Value → Shared → Prop} (W : Drw It Sq) (D : ZipApart z u o i j l m)
    (hz : SZip s.heap z u o .none) (hu : IsPair s.heap u (.ref i) (.ref j)) (ho : IsPair s.heap o a b) (hi : It s.heap i l k) (hj : It s.heap j m k) (hl : Sq s.heap l xs) (hm : Sq s.heap m ys) (hx : xs[k]? = some x) (hy : ys[k]? = some y)
    (hQ : ∀ h', SZip h' z u o (rawInt s.heap.objs.size) → IsPair h' o x y → It h' i l (k + 1) → It h' j m (k + 1) → IsPair h' s.heap.objs.size x y → h'.objs.size = s.heap.objs.size + 1 → (∀ c q, c ≠ z → c ≠ o → c ≠ i → c ≠ j → s.heap.get? c = some q → h'.get? c = some q) → Q (.ref s.heap.objs.size) { s with heap := h' }) :
    wpAny (model prog w) A (Builtin.«zip.__next__» ⟨[.ref z], []⟩) (fun r s' => ∃ v, r = .done (.ret v) ∧ Q v s') E s := by
  show wpAny _ _ (field (.ref z) 2 >>= _) _ _ _
  refine wpAny_bind (wpAny_field hz rfl (x := .bool true) rfl ?_)
  show wpAny _ _ (field (.ref z) 3 >>= _) _ _ _
  refine wpAny_bind (wpAny_field hz rfl (x := .ref u) rfl (wpAny_bind (wpAny_seqItems hu rfl ?_)))
  show wpAny _ _ (Builtin.SmallTypes.ownedTupleIsFree (.ref z) >>= _) _ _ _
  refine wpAny_bind ?_
  unfold Builtin.SmallTypes.ownedTupleIsFree
  refine wpAny_bind (wpAny_field hz rfl (x := .none) rfl (wpAny_pure ?_))
  simp only [if_true]
  refine wpAny_bind (wpAny_rule (wpAny_bind (wpAny_field hz rfl (x := .ref o) rfl ?_)))
  refine wpAny_bind (wpAny_setField_rec hz (by simp) fun g1 q1 b1 => ?_)
  replace q1 : SZip g1 z u o .ellipsis := q1
  refine wpAny_bind ?_
  simp only [List.zipIdx_cons, List.zipIdx_nil, List.forIn_cons, List.forIn_nil]
  refine wpAny_bind (wpAny_bind (wpAny_onRaise ?_))
  show wpAny _ _ (Builtin.SmallTypes.nextOrEnd (.ref i)) _ _ _
  have e1 : ∀ c q, c ≠ z → s.heap.get? c = some q → g1.get? c = some q := fun c q n e => b1.extBut _ _ n e
  refine more W (W.mv hi fun q e => e1 _ q D.i1z e) (W.mvS hl fun q e => e1 _ q D.l1z e) hx fun g2 i2 b2 => ?_
  have o2 : IsPair g2 o a b := b2.extBut _ _ D.TOi1 (e1 _ _ D.TOz ho)
  refine wpAny_bind (wpAny_seqItems o2 rfl (wpAny_bind (wpAny_updateSeq_pair o2 fun g3 o3 b3 => ?_)))
  replace o3 : IsPair g3 o x b := o3
  refine wpAny_bind (wpAny_letGo (wpAny_pure ?_))
  have e3 : ∀ c q, c ≠ z → c ≠ i → c ≠ o → s.heap.get? c = some q → g3.get? c = some q := fun c q n1 n2 n3 e => b3.extBut _ _ n3 (b2.extBut _ _ n2 (e1 c q n1 e))
  refine wpAny_bind (wpAny_bind (wpAny_onRaise ?_))
  show wpAny _ _ (Builtin.SmallTypes.nextOrEnd (.ref j)) _ _ _
  refine more W (W.mv hj fun q e => e3 _ q D.i2z D.i12.symm D.TOi2.symm e) (W.mvS hm fun q e => e3 _ q D.l2z D.l2i1 D.l2TO e) hy fun g4 j4 b4 => ?_
  have o4 : IsPair g4 o x b := b4.extBut _ _ D.TOi2 o3
  refine wpAny_bind (wpAny_seqItems o4 rfl (wpAny_bind (wpAny_updateSeq_pair o4 fun g5 o5 b5 => ?_)))
  replace o5 : IsPair g5 o x y := o5
  refine wpAny_bind (wpAny_letGo (wpAny_pure (wpAny_pure ?_)))
  refine wpAny_bind (wpAny_seqItems o5 rfl (wpAny_bind (wpAny_newTuple ?_)))
  have sz : g5.objs.size = s.heap.objs.size := by rw [b5.1, b4.1, b3.1, b2.1, b1.1]
  have z5 : SZip g5 z u o .ellipsis := b5.extBut _ _ D.TOz.symm (b4.extBut _ _ D.i2z.symm (b3.extBut _ _ D.TOz.symm (b2.extBut _ _ D.i1z.symm q1)))
  have k5 : ∀ c q, c ≠ z → c ≠ o → c ≠ i → c ≠ j → s.heap.get? c = some q → g5.get? c = some q := fun c q n1 n2 n3 n4 e => b5.extBut _ _ n2 (b4.extBut _ _ n4 (e3 c q n1 n3 n2 e))
  have i5 : It g5 i l (k + 1) := W.mv i2 fun q e => b5.extBut _ _ D.TOi1.symm (b4.extBut _ _ D.i12 (b3.extBut _ _ D.TOi1.symm e))
  have j5 : It g5 j m (k + 1) := W.mv j4 fun q e => b5.extBut _ _ D.TOi2.symm e
  have zl : z < g5.objs.size := Heap.lt_size z5
  show wpAny _ _ (Builtin.SmallTypes.ownedTupleHandOut (.ref z) (.ref g5.objs.size) >>= _) _ _ _
  refine wpAny_bind ?_
  unfold Builtin.SmallTypes.ownedTupleHandOut
  have z6 : SZip (g5.push { cls := .type "tuple", data := .seq #[x, y] }) z u o .ellipsis := Heap.get?_push_of_some _ z5
  refine wpAny_bind (wpAny_setField_rec z6 (by simp) fun g7 z7 b7 => ?_)
  replace z7 : SZip g7 z u o (rawInt g5.objs.size) := z7
  refine wpAny_setField_rec z7 (by simp) fun g8 z8 b8 => ?_
  replace z8 : SZip g8 z u o (rawInt g5.objs.size) := z8
  have up : ∀ c q, c ≠ z → g5.get? c = some q → g8.get? c = some q := fun c q n e => b8.extBut _ _ n (b7.extBut _ _ n (Heap.get?_push_of_some _ e))
  have t8 : IsPair g8 g5.objs.size x y := b8.extBut _ _ (Nat.ne_of_gt zl) (b7.extBut _ _ (Nat.ne_of_gt zl) (Heap.get?_push_size _ rfl))
  have s8 : g8.objs.size = g5.objs.size + 1 := by rw [b8.1, b7.1, Heap.size_push]
  rw [sz] at z8 t8 s8
  refine wpAny_pure ⟨_, rfl, ?_⟩
  show Q (.ref g5.objs.size) _
  rw [sz]
  exact hQ g8 z8 (up _ _ D.TOz o5) (W.mv i5 fun q e => up _ q D.i1z e) (W.mv j5 fun q e => up _ q D.i2z e) t8 s8 fun c q n1 n2 n3 n4 e => up c q n1 (k5 c q n1 n2 n3 n4 e)
theorem next_over {z u o i j l m : Addr} {k : Nat} {xs ys : Array Value} {a b : Value} {Q : Fin → Shared → Prop} (W : Drw It Sq) (hh : A.handled = none) (D : ZipApart z u o i j l m)
    (hz : SZip s.heap z u o .none) (hu : IsPair s.heap u (.ref i) (.ref j)) (ho : IsPair s.heap o a b) (hi : It s.heap i l k) (hj : It s.heap j m k) (hl : Sq s.heap l xs) (hm : Sq s.heap m ys) (hx : xs[k]? = none) (hy : ys[k]? = none)
    (hE : ∀ h' e, (∀ c q, c ≠ z → c ≠ o → c ≠ i → c ≠ j → s.heap.get? c = some q → h'.get? c = some q) → (∃ q, h'.get? e = some q ∧ q.cls = .type "StopIteration") → E (.ref e) { s with heap := h' }) :
    wpAny (model prog w) A (Builtin.«zip.__next__» ⟨[.ref z], []⟩) Q E s := by
  show wpAny _ _ (field (.ref z) 2 >>= _) _ _ _
  refine wpAny_bind (wpAny_field hz rfl (x := .bool true) rfl ?_)
  show wpAny _ _ (field (.ref z) 3 >>= _) _ _ _
  refine wpAny_bind (wpAny_field hz rfl (x := .ref u) rfl (wpAny_bind (wpAny_seqItems hu rfl ?_)))
  show wpAny _ _ (Builtin.SmallTypes.ownedTupleIsFree (.ref z) >>= _) _ _ _
  refine wpAny_bind ?_
  unfold Builtin.SmallTypes.ownedTupleIsFree
  refine wpAny_bind (wpAny_field hz rfl (x := .none) rfl (wpAny_pure ?_))
  simp only [if_true]
  refine wpAny_bind (wpAny_rule (wpAny_bind (wpAny_field hz rfl (x := .ref o) rfl ?_)))
  refine wpAny_bind (wpAny_setField_rec hz (by simp) fun g1 q1 b1 => ?_)
  replace q1 : SZip g1 z u o .ellipsis := q1
  refine wpAny_bind ?_
  simp only [List.zipIdx_cons, List.zipIdx_nil, List.forIn_cons, List.forIn_nil]
  refine wpAny_bind (wpAny_bind (wpAny_onRaise ?_))
  show wpAny _ _ (Builtin.SmallTypes.nextOrEnd (.ref i)) _ _ _
  have e1 : ∀ c q, c ≠ z → s.heap.get? c = some q → g1.get? c = some q := fun c q n e => b1.extBut _ _ n e
  refine over W hh (W.mv hi fun q e => e1 _ q D.i1z e) (W.mvS hl fun q e => e1 _ q D.l1z e) hx fun g2 b2 => ?_
  have z2 : SZip g2 z u o .ellipsis := b2 _ _ D.i1z.symm q1
  refine wpAny_bind (wpAny_setField_rec z2 (by simp) fun g3 z3 b3 => ?_)
  have e3 : ∀ c q, c ≠ z → c ≠ i → s.heap.get? c = some q → g3.get? c = some q := fun c q n1 n2 e => b3.extBut _ _ n1 (b2 _ _ n2 (e1 c q n1 e))
  refine wpAny_bind ?_
  show wpAny _ _ (forIn [((Value.ref j : Value), 1)] PUnit.unit _ >>= _) _ _ _
  simp only [List.forIn_cons, List.forIn_nil]
  refine wpAny_bind (wpAny_bind (wpAny_bind ?_))
  refine over W hh (W.mv hj fun q e => e3 _ q D.i2z D.i12.symm e) (W.mvS hm fun q e => e3 _ q D.l2z D.l2i1 e) hy fun g4 b4 => ?_
  refine wpAny_pure (wpAny_pure ?_)
  refine wpAny_bind (wpAny_rule ?_)
  refine stops hh fun g5 e b5 he => hE g5 e (fun c q n1 n2 n3 n4 z => b5 c q (b4 c q n4 (e3 c q n1 n3 z))) he
theorem pyNext_more {z u o i j l m : Addr} {k : Nat} {xs ys : Array Value} {x y a b : Value} {Q : Option Value → Shared → Prop} (W : Drw It Sq) (D : ZipApart z u o i j l m)
    (hz : SZip s.heap z u o .none) (hu : IsPair s.heap u (.ref i) (.ref j)) (ho : IsPair s.heap o a b) (hi : It s.heap i l k) (hj : It s.heap j m k) (hl : Sq s.heap l xs) (hm : Sq s.heap m ys) (hx : xs[k]? = some x) (hy : ys[k]? = some y)
    (hQ : ∀ h', SZip h' z u o (rawInt s.heap.objs.size) → IsPair h' o x y → It h' i l (k + 1) → It h' j m (k + 1) → IsPair h' s.heap.objs.size x y → h'.objs.size = s.heap.objs.size + 1 → (∀ c q, c ≠ z → c ≠ o → c ≠ i → c ≠ j → s.heap.get? c = some q → h'.get? c = some q) → Q (some (.ref s.heap.objs.size)) { s with heap := h' }) :
    wpAny (model prog w) A (pyNext (.ref z)) Q E s := by
  have ty : s.TypeIs (.ref z) "zip" := ⟨_, hz, rfl⟩
  unfold pyNext
  refine wpAny_bind (wpAny_attempt (wpAny_callSpecial?_slot (name := Str.ofString "__next__") ty F.slot_zip_next (wpAny_call_entry F.slot_zip_next ty F.entry_zip_next ?_ (F.args_zip_next_1 _))))
  exact next_more W D hz hu ho hi hj hl hm hx hy fun h' c1 c2 c3 c4 c5 c6 c7 => wpAny_pure (hQ h' c1 c2 c3 c4 c5 c6 c7)
theorem pyNext_over {z u o i j l m : Addr} {k : Nat} {xs ys : Array Value} {a b : Value} {Q : Option Value → Shared → Prop} (W : Drw It Sq) (hh : A.handled = none) (D : ZipApart z u o i j l m)
    (hz : SZip s.heap z u o .none) (hu : IsPair s.heap u (.ref i) (.ref j)) (ho : IsPair s.heap o a b) (hi : It s.heap i l k) (hj : It s.heap j m k) (hl : Sq s.heap l xs) (hm : Sq s.heap m ys) (hx : xs[k]? = none) (hy : ys[k]? = none)
    (hQ : ∀ h', (∀ c q, c ≠ z → c ≠ o → c ≠ i → c ≠ j → s.heap.get? c = some q → h'.get? c = some q) → Q none { s with heap := h' }) : wpAny (model prog w) A (pyNext (.ref z)) Q E s := by
  have ty : s.TypeIs (.ref z) "zip" := ⟨_, hz, rfl⟩
  unfold pyNext
  refine wpAny_bind (wpAny_attempt (wpAny_callSpecial?_slot (name := Str.ofString "__next__") ty F.slot_zip_next (wpAny_call_entry F.slot_zip_next ty F.entry_zip_next ?_ (F.args_zip_next_1 _))))
  refine next_over W hh D hz hu ho hi hj hl hm hx hy fun h' e k ⟨q, z1, z2⟩ => ?_
  exact wpAny_bind (wpAny_isInstance (T := "StopIteration") (b := true) ⟨q, z1, z2⟩ isSubtype_stop (wpAny_pure (hQ _ k)))
theorem letGoS {elts : List Expr} {x1} {pos : Pos} {z u o p : Addr} {Q : Unit → Shared → Prop} (hz : SZip s.heap z u o (rawInt p))
    (hQ : ∀ h', SZip h' z u o .none → Heap.SameBut z s.heap h' → Q () { s with heap := h' }) : wpAny (model prog w) A (letOwnedTupleGo (.Tuple elts x1 pos) (.ref z) (.ref p)) Q E s := by
  unfold letOwnedTupleGo
  refine wpAny_bind (wpAny_load hz ?_)
  simp only
  rw [if_pos (by simp)]
  refine wpAny_bind (wpAny_rule ?_)
  exact wpAny_setField_rec hz (by simp) fun h' z' b' => hQ h' z' b'
theorem pyIterS {z u o : Addr} {f : Value} {Q : Value → Shared → Prop} (hz : SZip s.heap z u o f) (h : Q (.ref z) s) : wpAny (model prog w) A (pyIter (.ref z)) Q E s := by
  have ty : s.TypeIs (.ref z) "zip" := ⟨_, hz, rfl⟩
  refine wpAny_pyIter_slot ty F.slot_zip_iter (wpAny_call_entry F.slot_zip_iter ty F.entry_zip_iter ?_ (F.args_zip_iter_1 _))
  exact wpAny_pure ⟨_, rfl, "zip", _, ty, F.slot_zip_next.lookup, h⟩
end
theorem tyCall (a b : Value) (v : Value) : checkTypeCall "zip" ⟨[a, b], [("strict", v)]⟩ = pure () := by kernel_rfl
theorem nwCall (a b : Value) (v : Value) : checkBuiltinCall "zip.__new__" ⟨[.type "zip", a, b], [("strict", v)]⟩ = pure () := by kernel_rfl
theorem iniOk (a b c : Value) (v : Value) : argsOk "object.__init__" ⟨[a, b, c], [("strict", v)]⟩ := by
  unfold argsOk; rw [signature?_of (id := "object.__init__") (n := ['_', '_', 't', 'i', 'n', 'i', '_', '_']) (o := ['t', 'c', 'e', 'j', 'b', 'o']) (by kernel_rfl) F.owner_object]; kernel_rfl
section
variable {prog : Program} {w : World} {A : Around} {E : Value → Shared → Prop} {s : Shared}
theorem wgt (T : String) (args : List Value) (kw : List (Str × Value)) : (Code.builtin "type.__call__" ⟨.type T :: args, kw⟩).weight = 0 := rfl
theorem unt (T : String) (args : List Value) (kw : List (Str × Value)) : (Code.builtin "type.__call__" ⟨.type T :: args, kw⟩).cUnits = 1 := rfl
/-- T(args, kw): the class makes it, object's own __init__ lets the rest be -/
theorem callTK {T newId : String} {Bn : Builtin} {args : List Value} {kw : List (Str × Value)} {S : PySem.Spec} {Q : Value → Shared → Prop} (ft : TypeCalled T newId "object.__init__") (hct : checkTypeCall T ⟨args, kw⟩ = pure ()) (hcn : checkBuiltinCall newId ⟨.type T :: args, kw⟩ = pure ())
    (hok : ∀ obj, argsOk "object.__init__" ⟨obj :: args, kw⟩) (en : entryFor table newId = some Bn) (g : Meets (Bn ⟨.type T :: args, kw⟩) S) (hi : ∀ obj, Meets (Builtin.«object.__init__» ⟨obj :: args, kw⟩) (fun _ R s => s.TypeIs obj T ∧ R (.ok (.ret .none)) s))
    (h : S A.in1 (wants (fun obj s1 => s1.TypeIs obj T ∧ Q obj s1) E) s) : wpAny (model prog w) A (call (.type T) args kw) Q E s := by
  obtain ⟨c, tl, hmro⟩ := ft.mro
  have hmade := ft.made
  have hsub := ft.sub
  refine wpAny_call (codeAny_of_tree ?_)
  show wpAny _ _ (callAny (.type T) _) _ _ _
  refine wpAny_pure ⟨Code.quiet_builtin _ (by decide +kernel), codeAny_builtin F.entry_type_call ?_⟩
  rw [Around.under_plain (wgt T args kw) (unt T args kw)]
  have t1 := ft.notType
  have t2 := ft.canCreate
  repeat (any_goals (first | assumption | wp_step))
  refine codeAny_mono (codeAny_call_builtin ft.plain en (wpAny_of_eq hcn (g prog w A.in1 _ s h))) fun r s1 hr => ?_
  cases r with
  | error e => exact hr
  | ok fl =>
    cases fl with
    | ret obj =>
      obtain ⟨hT, hq⟩ := hr
      have l1 := ft.init.lookup
      have l2 := ft.init.bind obj
      repeat (any_goals (first | assumption | wp_step))
      refine codeAny_mono (codeAny_call_builtin ft.init.plain F.entry_object_init (ft.init.check _ _ _ _ _ _ _ _ hT (hok obj) (hi obj prog w A.in1 (wants (fun r s2 => r = .none ∧ Q obj s2) E) s1 ⟨hT, rfl, hq⟩))) fun r2 s2 hr2 => ?_
      cases r2 with
      | error e => exact hr2
      | ok fl2 =>
        cases fl2 with
        | ret r =>
          obtain ⟨rfl, hq⟩ := hr2
          repeat (any_goals (first | assumption | wp_step))
        | _ => exact hr2.elim
    | _ => exact hr.elim
theorem inM {T newId : String} {self : Value} {rest : List Value} {kw : List (Str × Value)} (hl : typeLookup (.type T) "__init__" = pure (some (.builtin "object.__init__"))) (hm : Bind.madeBy (.type T) = pure (some newId)) (hne : (some newId != some "object.__new__") = true) :
    Meets (Builtin.«object.__init__» ⟨self :: rest, kw⟩) (fun _ R s => s.TypeIs self T ∧ R (.ok (.ret .none)) s) := by
  refine Meets.of_wp fun prog w A R s ⟨hT, hq⟩ => ?_
  by_cases he : (rest.isEmpty && kw.isEmpty) = true
  · rw [Bool.and_eq_true] at he
    obtain ⟨e1, e2⟩ := he
    cases rest with
    | nil =>
      cases kw with
      | nil => exact wpAny_pure ⟨_, rfl, hq⟩
      | cons _ _ => cases e2
    | cons _ _ => cases e1
  · cases rest with
    | nil =>
      cases kw with
      | nil => exact absurd rfl he
      | cons _ _ =>
        repeat (any_goals (first | assumption | wp_step))
        exact ⟨_, rfl, hq⟩
    | cons _ _ =>
      repeat (any_goals (first | assumption | wp_step))
      exact ⟨_, rfl, hq⟩
end
/-- what zip makes: two iterators of the type I, the pair of them, the pair that it hands on, itself -/
abbrev nit (I : String) (l : Addr) : Obj := { cls := .type I, data := .fields #[.ref l, .int 0 0] }
abbrev zh1 (I : String) (h : Heap) (l : Addr) : Heap := h.push (nit I l)
abbrev zh2 (I : String) (h : Heap) (l m : Addr) : Heap := (zh1 I h l).push (nit I m)
abbrev zh3 (I : String) (h : Heap) (l m : Addr) : Heap := (zh2 I h l m).push { cls := .type "tuple", data := .seq #[.ref h.objs.size, .ref (zh1 I h l).objs.size] }
abbrev zh4 (I : String) (h : Heap) (l m : Addr) : Heap := (zh3 I h l m).push { cls := .type "tuple", data := .seq #[.none, .none] }
abbrev zh5 (I : String) (h : Heap) (l m : Addr) : Heap := (zh4 I h l m).push { cls := .type "zip", data := .fields #[.none, .bool false, .bool true, .ref (zh2 I h l m).objs.size, .ref (zh3 I h l m).objs.size] }
theorem mkT (l m : Addr) (xs ys : Array Value) : Meets (Builtin.«zip.__new__» ⟨[.type "zip", .ref l, .ref m], [("strict", .bool true)]⟩) (fun _ R s => s.heap.IsTuple l xs ∧ s.heap.IsTuple m ys ∧ R (.ok (.ret (.ref (zh4 "tuple_iterator" s.heap l m).objs.size))) { s with heap := zh5 "tuple_iterator" s.heap l m }) :=
  .of_wp fun prog w A R s h => by
    obtain ⟨hp, g, d, tk, os⟩ := s
    obtain ⟨t1, t2, h⟩ := h
    have hsub := sub_zip
    have u1 : Heap.IsTuple (Shared.heap ⟨hp, g, d, tk, os⟩) l xs := t1
    have u2 : Heap.IsTuple (Shared.heap ⟨hp.push (nit "tuple_iterator" l), g, d, tk, os⟩) m ys := Heap.IsTuple.push t2 _
    wp_walk using wpAny_pyIter_tuple u1, wpAny_pyIter_tuple u2
    exact ⟨_, rfl, h⟩
theorem mkL (l m : Addr) (xs ys : Array Value) : Meets (Builtin.«zip.__new__» ⟨[.type "zip", .ref l, .ref m], [("strict", .bool true)]⟩) (fun _ R s => s.heap.IsList l xs ∧ s.heap.IsList m ys ∧ R (.ok (.ret (.ref (zh4 "list_iterator" s.heap l m).objs.size))) { s with heap := zh5 "list_iterator" s.heap l m }) :=
  .of_wp fun prog w A R s h => by
    obtain ⟨hp, g, d, tk, os⟩ := s
    obtain ⟨t1, t2, h⟩ := h
    have hsub := sub_zip
    have u1 : Heap.IsList (Shared.heap ⟨hp, g, d, tk, os⟩) l xs := t1
    have u2 : Heap.IsList (Shared.heap ⟨hp.push (nit "list_iterator" l), g, d, tk, os⟩) m ys := Heap.IsList.push t2 _
    wp_walk using wpAny_pyIter_list u1, wpAny_pyIter_list u2
    exact ⟨_, rfl, h⟩
end TA.ZS

set_option maxHeartbeats 4000000
/-! zip over two tuples or lists, as a source. -/
namespace TA.ZS
open PySem PySem.Spec PyProof.Rows L2
section
variable {prog : Program} {w : World} {A : Around} {E : Value → Shared → Prop} {s : Shared}
/-- the heap behind zip(l, m, strict=True) -/
structure Made (I : String) (h h' : Heap) (l m : Addr) : Prop where
  z : SZip h' (h.objs.size + 4) (h.objs.size + 2) (h.objs.size + 3) .none
  u : IsPair h' (h.objs.size + 2) (.ref h.objs.size) (.ref (h.objs.size + 1))
  o : IsPair h' (h.objs.size + 3) .none .none
  i : h'.get? h.objs.size = some (nit I l)
  j : h'.get? (h.objs.size + 1) = some (nit I m)
  k : ∀ c q, h.get? c = some q → h'.get? c = some q
theorem made (I : String) (h : Heap) (l m : Addr) : Made I h (zh5 I h l m) l m ∧ (zh4 I h l m).objs.size = h.objs.size + 4 := by
  have s1 : (zh1 I h l).objs.size = h.objs.size + 1 := Heap.size_push ..
  have s2 : (zh2 I h l m).objs.size = h.objs.size + 2 := by rw [Heap.size_push, s1]
  have s3 : (zh3 I h l m).objs.size = h.objs.size + 3 := by rw [Heap.size_push, s2]
  have s4 : (zh4 I h l m).objs.size = h.objs.size + 4 := by rw [Heap.size_push, s3]
  have p5 : (zh5 I h l m).get? (zh4 I h l m).objs.size = some _ := Heap.get?_push_size _ rfl
  have p4 : (zh5 I h l m).get? (zh3 I h l m).objs.size = some _ := Heap.get?_push_of_some _ (Heap.get?_push_size _ rfl)
  have p3 : (zh5 I h l m).get? (zh2 I h l m).objs.size = some _ := Heap.get?_push_of_some _ (Heap.get?_push_of_some _ (Heap.get?_push_size _ rfl))
  have p2 : (zh5 I h l m).get? (zh1 I h l).objs.size = some _ := Heap.get?_push_of_some _ (Heap.get?_push_of_some _ (Heap.get?_push_of_some _ (Heap.get?_push_size _ rfl)))
  have p1 : (zh5 I h l m).get? h.objs.size = some _ := Heap.get?_push_of_some _ (Heap.get?_push_of_some _ (Heap.get?_push_of_some _ (Heap.get?_push_of_some _ (Heap.get?_push_size _ rfl))))
  rw [s2, s3, s4] at p5
  rw [s1, s2] at p3
  rw [s3] at p4
  rw [s1] at p2
  exact ⟨⟨p5, p3, p4, p1, p2, fun c q e => Heap.get?_push_of_some _ (Heap.get?_push_of_some _ (Heap.get?_push_of_some _ (Heap.get?_push_of_some _ (Heap.get?_push_of_some _ e))))⟩, s4⟩
theorem callT {l m : Addr} {xs ys : Array Value} {Q : Value → Shared → Prop} (hl : s.heap.IsTuple l xs) (hm : s.heap.IsTuple m ys) (h : ∀ h', Made "tuple_iterator" s.heap h' l m → Q (.ref (s.heap.objs.size + 4)) { s with heap := h' }) :
    wpAny (model prog w) A (call (.type "zip") [.ref l, .ref m] [("strict", .bool true)]) Q E s := by
  refine callTK F.called_zip (tyCall _ _ _) (nwCall _ _ _) (fun obj => iniOk obj _ _ _) F.entry_zip_new (mkT l m xs ys) (fun obj => inM F.called_zip.init.lookup F.called_zip.made (by decide)) ⟨hl, hm, ?_⟩
  obtain ⟨M, e⟩ := made "tuple_iterator" s.heap l m
  show _ ∧ _
  rw [e]
  exact ⟨⟨_, M.z, rfl⟩, h _ M⟩
theorem callL {l m : Addr} {xs ys : Array Value} {Q : Value → Shared → Prop} (hl : s.heap.IsList l xs) (hm : s.heap.IsList m ys) (h : ∀ h', Made "list_iterator" s.heap h' l m → Q (.ref (s.heap.objs.size + 4)) { s with heap := h' }) :
    wpAny (model prog w) A (call (.type "zip") [.ref l, .ref m] [("strict", .bool true)]) Q E s := by
  refine callTK F.called_zip (tyCall _ _ _) (nwCall _ _ _) (fun obj => iniOk obj _ _ _) F.entry_zip_new (mkL l m xs ys) (fun obj => inM F.called_zip.init.lookup F.called_zip.made (by decide)) ⟨hl, hm, ?_⟩
  obtain ⟨M, e⟩ := made "list_iterator" s.heap l m
  show _ ∧ _
  rw [e]
  exact ⟨⟨_, M.z, rfl⟩, h _ M⟩
end
/-- the two as they stand at each turn, of one length; R H a xs: a holds xs in the tracked heap -/
def ItS (R : Hp → Addr → List V → Prop) (a b : Addr) : It :=
  ⟨fun i H => ∃ (xs ys : List V) (x y : V), R H a xs ∧ R H b ys ∧ xs[i]? = some x ∧ ys[i]? = some y,
    fun i H v H' => ∃ p x y, v = .ref p ∧ H p = none ∧ H' = upd H p (.tup [x, y]) ∧ (∀ xs, R H a xs → xs[i]? = some x) ∧ ∀ ys, R H b ys → ys[i]? = some y,
    fun i H => ∃ xs ys : List V, R H a xs ∧ R H b ys ∧ xs.length ≤ i ∧ ys.length ≤ i⟩
/-- how the tracked heap's sequences are the model's -/
structure Kd (R : Hp → Addr → List V → Prop) (Sq : Heap → Addr → Array Value → Prop) (P : Program) (w : World) (K : PySem.W.Frag) : Prop where
  at_ : ∀ {X : Cx} {pins : List (Addr × Obj)} {σ : L2.St} {H : Hp} {s : Shared} {a : Addr} {xs : List V}, X.prog = P → X.w = w → X.K = K → Inv X pins σ H s → R H a xs → ∃ its : List Value, Vals xs its ∧ Sq s.heap a its.toArray
  inj : ∀ {X : Cx} {pins : List (Addr × Obj)} {σ : L2.St} {H : Hp} {s : Shared} {a : Addr} {xs ys : List V}, X.prog = P → X.w = w → X.K = K → Inv X pins σ H s → R H a xs → R H a ys → xs = ys
theorem kdT {P : Program} {w : World} {K : PySem.W.Frag} : Kd (SqT K) (fun h l xs => h.IsTuple l xs) P w K where
  at_ := fun hP hw hK I r => by subst hK; obtain ⟨its, rv, p, _⟩ := I.tuple r; exact ⟨its, rv, p⟩
  inj := fun hP hw hK I r r' => by subst hK; exact I.tuple_inj r r'
theorem kdL {P : Program} {w : World} {K : PySem.W.Frag} : Kd (SqL K) (fun h l xs => h.IsList l xs) P w K where
  at_ := fun hP hw hK I r => by subst hK; obtain ⟨its, rv, p, _⟩ := I.list r; exact ⟨its, rv, p.isList⟩
  inj := fun hP hw hK I r r' => by subst hK; exact I.list_inj r r'
theorem turnS {R : Hp → Addr → List V → Prop} {It : Heap → Addr → Addr → Nat → Prop} {Sq : Heap → Addr → Array Value → Prop} {P : Program} {w : World} {K : PySem.W.Frag} {elts : List Expr} {kk : Nat} {tpos : Pos} {a b z u o i1 i2 : Addr}
    (W : Drw It Sq) (Y : Kd R Sq P w K) (D : ZipApart z u o i1 i2 a b) :
    Turn P w K (.Tuple elts kk tpos) (ItS R a b) [z, u, o, i1, i2] z (fun i h => SZip h z u o .none ∧ IsPair h u (.ref i1) (.ref i2) ∧ (∃ x y, IsPair h o x y) ∧ It h i1 a i ∧ It h i2 b i) where
  mem := by simp
  obj := fun i h ⟨hz, hu, ⟨x, y, ho⟩, t1, t2⟩ c hc => by
    have e' : c = z ∨ c = u ∨ c = o ∨ c = i1 ∨ c = i2 := by simpa using hc
    rcases e' with q | q | q | q | q
    · subst q; exact ⟨_, hz, fun v q => nomatch q⟩
    · subst q; exact ⟨_, hu, fun v q => nomatch q⟩
    · subst q; exact ⟨_, ho, fun v q => nomatch q⟩
    · subst q; exact W.get t1
    · subst q; exact W.get t2
  keep := fun i h h' ⟨hz, hu, ⟨x, y, ho⟩, t1, t2⟩ k => ⟨k z (by simp) _ hz, k u (by simp) _ hu, ⟨x, y, k o (by simp) _ ho⟩, W.mv t1 fun q e => k i1 (by simp) q e, W.mv t2 fun q e => k i2 (by simp) q e⟩
  item := by
    intro X hP hw hK hc i pins s σ H E I hf st hg
    obtain ⟨hz, hu, ⟨x0, y0, ho⟩, t1, t2⟩ := st
    obtain ⟨xs, ys, x, y, r1, r2, hx, hy⟩ := hg
    obtain ⟨its, rv, p1⟩ := Y.at_ hP hw hK I r1
    obtain ⟨its2, rv2, p2⟩ := Y.at_ hP hw hK I r2
    obtain ⟨v1, e1, rv1⟩ := rv.get hx
    obtain ⟨v2, e2, rv3⟩ := rv2.get hy
    have zl : z < s.heap.objs.size := Heap.lt_size hz
    subst hP hw
    refine pyNext_more W D hz hu ho t1 t2 p1 p2 (x := v1) (y := v2) (by simpa using e1) (by simpa using e2) fun h' z' o' j1 j2 hT hsz hk => ?_
    refine ⟨_, rfl, letGoS (s := { s with heap := h' }) z' fun h'' z'' sb => ?_⟩
    have T2 : h''.get? s.heap.objs.size = some { cls := .type "tuple", data := .seq #[v1, v2] } := (sb.2 _ (Nat.ne_of_gt zl)).trans hT
    have ok : ObjOk X.prog X.w (upd H s.heap.objs.size (.tup [x, y])) h'' s.heap.objs.size (.tup [x, y]) := ⟨by show 2 ≤ sizeLine; decide, [v1, v2], .cons rv1 (.cons rv3 .nil), ⟨_, T2, rfl, _, rfl⟩⟩
    have far : ∀ c q, c ∉ [z, u, o, i1, i2] → s.heap.get? c = some q → h''.get? c = some q := fun c q n e => by
      simp only [List.mem_cons, List.not_mem_nil, or_false, not_or] at n
      exact (sb.2 c n.1).trans (hk c q n.1 n.2.2.1 n.2.2.2.1 n.2.2.2.2 e)
    have J : Inv X pins σ (upd H s.heap.objs.size (.tup [x, y])) { s with heap := h'' } := I.turnedNew (t' := s.toks) (ch := [z, u, o, i1, i2]) far hf (Nat.le_refl _) ok
    refine ⟨.ref s.heap.objs.size, _, J, rfl, ⟨_, x, y, rfl, I.hok.fresh (Nat.le_refl _), rfl, fun l hl => by rw [Y.inj rfl rfl hK I hl r1]; exact hx, fun l hl => by rw [Y.inj rfl rfl hK I hl r2]; exact hy⟩, ⟨z'', ?_, ⟨v1, v2, ?_⟩, ?_, ?_⟩, fun c hcm => ?_⟩
    · exact (sb.2 _ D.TIz).trans (hk _ _ D.TIz D.TITO D.TIi1 D.TIi2 hu)
    · exact (sb.2 _ D.TOz).trans o'
    · exact W.mv j1 fun q e => (sb.2 _ D.i1z).trans e
    · exact W.mv j2 fun q e => (sb.2 _ D.i2z).trans e
    · have lt : c < s.heap.objs.size := by
        have e' : c = z ∨ c = u ∨ c = o ∨ c = i1 ∨ c = i2 := by simpa using hcm
        rcases e' with q | q | q | q | q
        · subst q; exact zl
        · subst q; exact Heap.lt_size hu
        · subst q; exact Heap.lt_size ho
        · subst q; obtain ⟨_, e, _⟩ := W.get t1; exact Heap.lt_size e
        · subst q; obtain ⟨_, e, _⟩ := W.get t2; exact Heap.lt_size e
      rw [upd_ne (Nat.ne_of_lt lt)]
      exact (hf c hcm).1
  done := by
    intro X hP hw hK hc i pins s σ H E I hf st hg
    obtain ⟨hz, hu, ⟨x0, y0, ho⟩, t1, t2⟩ := st
    obtain ⟨xs, ys, r1, r2, n1, n2⟩ := hg
    obtain ⟨its, rv, p1⟩ := Y.at_ hP hw hK I r1
    obtain ⟨its2, rv2, p2⟩ := Y.at_ hP hw hK I r2
    have l1 := rv.length
    have l2 := rv2.length
    subst hP hw
    refine pyNext_over W (I.ok.hd hc) D hz hu ho t1 t2 p1 p2 (by simp; omega) (by simp; omega) fun h' hk => ⟨rfl, I.turnedL (t' := s.toks) (ch := [z, u, o, i1, i2]) (fun c q n e => ?_) hf⟩
    simp only [List.mem_cons, List.not_mem_nil, or_false, not_or] at n
    exact hk c q n.1 n.2.2.1 n.2.2.2.1 n.2.2.2.2 e
  self := fun A i s Q E st h => pyIterS st.1 h
end TA.ZS

set_option maxHeartbeats 4000000
/-! zip as a source of the small language. -/
namespace TA
open PySem PySem.Spec PyProof.Rows L2 ZS
section
variable {M : Model} {A : Around} {E : Value → Shared → Prop} {s : Shared} {env : PySem.Env}
theorem cwType0 {pos : Pos} {T : String} {args : List (Bool × Sem Value)} {keywords : List (Option Str × Sem Value)} {Q : Value → Shared → Prop} (hp : args.any (·.1) = false) (hk : keywords.any (·.1.isNone) = false)
    (h : wpAny M A (evalArgs (.type T) true args keywords) (fun a s1 => wpAny M A (call (.type T) a.pos a.kw) Q E s1) E s) : wpAny M A (callWith pos (.type T) [] args keywords) Q E s := by
  unfold callWith
  refine wpAny_bind (wpAny_holding (wpAny_mono h (fun a s1 h1 => wpAny_bind (wpAny_standAt ?_)) fun _ _ x => x))
  simp only [hp, hk, Bool.or_false]
  refine wpAny_bind (wpAny_pure ?_)
  exact wpAny_bind (wpAny_mono h1 (fun r s2 hr => wpAny_bind (wpAny_holding (wpAny_point (wpAny_pure hr)))) fun _ _ x => x)
theorem cwType {pos : Pos} {T : String} {e : Expr} {rest : List Expr} {kws : List Keyword} {Q : Value → Shared → Prop}
    (h : wpAny M A (spliced (backTo pos (starEach (e :: rest) env))) (fun vs s1 => wpAny M A (evalAll ((backToKw pos (keywordEach kws env)).map (·.2))) (fun kvs s2 => wpAny M A (call (.type T) vs (((backToKw pos (keywordEach kws env)).filterMap (·.1)).zip kvs)) Q E s2) E s1) E s)
    (he : starEach (e :: rest) env = (false, eval e env) :: starEach rest env) (hp : (backTo pos (starEach rest env)).any (·.1) = false) (hall : (backToKw pos (keywordEach kws env)).all (·.1.isSome) = true) (hkw : (backToKw pos (keywordEach kws env)).any (·.1.isNone) = false) :
    wpAny M A (callWith pos (.type T) [] (backTo pos (starEach (e :: rest) env)) (backToKw pos (keywordEach kws env))) Q E s := by
  rw [he] at h ⊢
  exact cwType0 (by show (false || (backTo pos (starEach rest env)).any (·.1)) = false; rw [hp]; rfl) hkw (evalArgs_kwB hall h)
end
def iZS (K : PySem.W.Frag) (ta : L2.TA) : TI := fun σ H R => ta σ H fun vs H1 => ∃ a b xs ys, vs = [.ref a, .ref b] ∧ ((SqL K H1 a xs ∧ SqL K H1 b ys ∧ R (ItS (SqL K) a b) H1) ∨ (SqT K H1 a xs ∧ SqT K H1 b ys ∧ R (ItS (SqT K) a b) H1))
theorem pi_zs {X : Cx} {e e2 : Expr} {ta : L2.TA} {p pos tpos kpos cpos : Pos} {elts : List Expr} {kk j : Nat} (hg : Gl X "zip") (hm : X.mg "zip" = none) (ha : PA X [e, e2] ta)
    (hs : starEach [e, e2] X.env = (false, eval e X.env) :: starEach [e2] X.env) (hpl : (backTo pos (starEach [e2] X.env)).any (·.1) = false) :
    PI X (.Tuple elts kk tpos) (.Call (.Name "zip" p) [e, e2] [⟨some "strict", .Constant (.bool true) j cpos, kpos⟩] pos) (iZS X.K ta) := by
  refine ⟨fun pins s σ H R I h => ?_⟩
  refine wpAny_Call_Name_kw (ld_blt I hg hm PyProof.Rows.boot_zip (cwType (thn (ha.run pos pins s σ H _ I h) fun us s1 ⟨vs, H1, I1, r1, q1⟩ => ?_) hs hpl rfl rfl))
  obtain ⟨a, b, xs, ys, ex, q1⟩ := q1
  subst ex
  cases r1 with
  | cons r rr =>
    cases rr with
    | cons r' rr =>
      cases rr
      cases r
      cases r'
      refine kws_cons (Constant_bool (kws_nil ?_))
      have fresh : ∀ c, c ∈ [s1.heap.objs.size + 4, s1.heap.objs.size + 2, s1.heap.objs.size + 3, s1.heap.objs.size, s1.heap.objs.size + 1] → FpOk X pins H1 c := fun c hc => by
        have le : s1.heap.objs.size ≤ c := by
          simp only [List.mem_cons, List.not_mem_nil, or_false] at hc
          omega
        exact I1.fpOk le (I1.hok.fresh le)
      rcases q1 with ⟨t1, t2, q⟩ | ⟨t1, t2, q⟩
      · obtain ⟨its, rv, p1, _⟩ := I1.list t1
        obtain ⟨its2, rv2, p2, _⟩ := I1.list t2
        refine callL p1.isList p2.isList fun h' M => pyIterS M.z ?_
        have J : Inv X pins σ H1 { s1 with heap := h' } := I1.kept (t' := s1.toks) M.k
        exact ⟨s1.heap.objs.size + 4, _, _, _, H1, rfl, J, turnS drwL kdL (PySem.W.ktu_apart s1.heap.objs.size a b p1.lt p2.lt), ⟨M.z, M.u, ⟨_, _, M.o⟩, ⟨_, M.i, rfl, rfl⟩, ⟨_, M.j, rfl, rfl⟩⟩, fresh, q⟩
      · obtain ⟨its, rv, p1, _⟩ := I1.tuple t1
        obtain ⟨its2, rv2, p2, _⟩ := I1.tuple t2
        obtain ⟨o1, ho1, _⟩ := id p1
        obtain ⟨o2, ho2, _⟩ := id p2
        refine callT (xs := its.toArray) (ys := its2.toArray) p1 p2 fun h' M => pyIterS M.z ?_
        have J : Inv X pins σ H1 { s1 with heap := h' } := I1.kept (t' := s1.toks) M.k
        exact ⟨s1.heap.objs.size + 4, _, _, _, H1, rfl, J, turnS drwT kdT (PySem.W.ktu_apart s1.heap.objs.size a b (Heap.lt_size ho1) (Heap.lt_size ho2)), ⟨M.z, M.u, ⟨_, _, M.o⟩, ⟨_, M.i, rfl, rfl⟩, ⟨_, M.j, rfl, rfl⟩⟩, fresh, q⟩
/-! ### what zip gives -/
theorem pairs_get : ∀ {xs ys : List PyData} {i : Nat} {d : PyData}, (pairsL xs ys)[i]? = some d → ∃ x y, xs[i]? = some x ∧ ys[i]? = some y ∧ d = .tuple [x, y]
  | [], _, _, _, h => by simp [pairsL] at h
  | _ :: _, [], _, _, h => by simp [pairsL] at h
  | x :: xs, y :: ys, 0, d, h => by simp [pairsL] at h; subst h; exact ⟨x, y, rfl, rfl, rfl⟩
  | x :: xs, y :: ys, i + 1, d, h => by
    have h' : (pairsL xs ys)[i]? = some d := by simpa [pairsL] using h
    obtain ⟨a, b, h1, h2, h3⟩ := pairs_get h'
    exact ⟨a, b, by simpa using h1, by simpa using h2, h3⟩
theorem pairs_len : ∀ (xs ys : List PyData), (pairsL xs ys).length = min xs.length ys.length
  | [], _ => by simp [pairsL]
  | _ :: _, [] => by simp [pairsL]
  | x :: xs, y :: ys => by simp [pairsL, pairs_len xs ys]
section
variable {X : Cx} {F : Fm}
theorem zip_seq {K : PySem.W.Frag} {G H : Hp} (s : Same G H) : (∀ {a : Addr} {vs : List V}, L2.Rd G a (.lst vs) → SqL K H a vs) ∧ ∀ {a : Addr} {vs : List V}, SqT K G a vs → SqT K H a vs := ⟨fun r => .inl (same_rd s r), fun r => same_sqt s r⟩
theorem zip_ok {K : PySem.W.Frag} {R : Hp → Addr → List V → Prop} {J : It} {a b : Addr} {vs us : List V} {xs ys : List PyData} {g0 : Gh} (hR : ∀ H, Same g0.G H → R H a vs ∧ R H b us) (ra : RdA K g0.G vs xs) (rb : RdA K g0.G us ys)
    (go : ∀ i H x y, R H a vs → R H b us → vs[i]? = some x → us[i]? = some y → J.go i H) (yld : ∀ i H v H', J.yld i H v H' → ∃ p x y, v = .ref p ∧ H p = none ∧ H' = upd H p (.tup [x, y]) ∧ (∀ zs, R H a zs → zs[i]? = some x) ∧ ∀ zs, R H b zs → zs[i]? = some y)
    (stop : ∀ H, R H a vs → R H b us → J.stop (min vs.length us.length) H) : ItOk K F J (pairsL xs ys) g0 := by
  intro g H σ ρ k Rl sm
  obtain ⟨h1, h2⟩ := hR H (fun c o e => Rl.sub _ _ (sm _ _ e))
  refine ⟨fun i d hd => ?_, ?_⟩
  · obtain ⟨x, y, e1, e2, rfl⟩ := pairs_get hd
    obtain ⟨v, f1, f2⟩ := ra.get e1
    obtain ⟨u, f3, f4⟩ := rb.get e2
    refine ⟨go i H v u h1 h2 f1 f3, fun z H' hy => ?_⟩
    obtain ⟨p, v', u', rfl, hp, rfl, c1, c2⟩ := yld i H z H' hy
    have e3 := c1 _ h1
    have e4 := c2 _ h2
    rw [f1] at e3; cases e3
    rw [f3] at e4; cases e4
    have nn := Rl.layF (o := .tup [v, u]) hp
    exact ⟨_, nn, .tup (vs := [v, u]) (.inl (.inl upd_same)) (.cons ((f2.mono sm).mono nn.sub) (.cons ((f4.mono sm).mono nn.sub) .nil))⟩
  · rw [pairs_len, ← ra.length, ← rb.length]
    exact stop H h1 h2
theorem rd2 {K : PySem.W.Frag} {G : Hp} {vs : List V} {x y : PyData} (h : RdA K G vs [x, y]) : ∃ v u, vs = [v, u] ∧ Rd K G v x ∧ Rd K G u y := by
  cases h with
  | cons a r =>
    cases r with
    | cons b r => cases r; exact ⟨_, _, rfl, a, b⟩
theorem zip_some {m : Sm} {st : Bool} {fd : Cm (List PyData)} (hm : m.v = fd.bnd fun ds => .lift (zipD st ds)) {ρ : Env} {k k' : OD} {zs : List PyData} (q : m.src ρ k = some (zs, k')) :
    ∃ ds, fd ρ k = some (ds, k') ∧ ((∃ xs ys, ds = [.tuple xs, .tuple ys] ∧ (st = true → xs.length = ys.length) ∧ zs = pairsL xs ys) ∨ ∃ xs ys, ds = [.list xs, .list ys] ∧ (st = true → xs.length = ys.length) ∧ zs = pairsL xs ys) := by
  obtain ⟨sv, d, q1, q2, q3, _⟩ := src_some q
  rw [hm] at q1
  obtain ⟨ds, k1, q4, q5⟩ := bnd_some q1
  obtain ⟨q6, rfl⟩ := lift_some q5
  refine ⟨ds, q4, ?_⟩
  unfold zipD at q6
  split at q6
  · rename_i xs ys
    split at q6
    · rename_i hc
      cases q6; cases q2; cases q3
      exact .inl ⟨xs, ys, rfl, fun e => by subst e; simpa using hc, rfl⟩
    · cases q6
  · rename_i xs ys
    split at q6
    · rename_i hc
      cases q6; cases q2; cases q3
      exact .inr ⟨xs, ys, rfl, fun e => by subst e; simpa using hc, rfl⟩
    · cases q6
  · cases q6
theorem pi_zipD {m : Sm} {fd : Cm (List PyData)} {e e2 : Expr} {p pos tpos : Pos} {elts : List Expr} {kk : Nat} (hm : m.v = fd.bnd fun ds => .lift (zipD false ds)) (hg : Gl X "zip") (hmg : X.mg "zip" = none) (ha : PA X [e, e2] (tDs X.K F fd))
    (hs : starEach [e, e2] X.env = (false, eval e X.env) :: starEach [e2] X.env) (hpl : (backTo pos (starEach [e2] X.env)).any (·.1) = false) : PI X (.Tuple elts kk tpos) (.Call (.Name "zip" p) [e, e2] [] pos) (tI X.K F m.src) := by
  refine ⟨fun pins s σ H R I ⟨g, ρ, k, zs, k', Rl, q, c⟩ => (RZ.pi_zipA hg hmg ha hs hpl).run pins s σ H R I ?_⟩
  obtain ⟨ds, q1, q2⟩ := zip_some hm q
  refine ⟨g, ρ, k, ds, k', Rl, q1, fun vs g1 H1 n1 ra => ?_⟩
  rcases q2 with ⟨xs, ys, rfl, _, rfl⟩ | ⟨xs, ys, rfl, _, rfl⟩
  · obtain ⟨v, u, rfl, r1, r2⟩ := rd2 ra
    cases r1 with
    | @tup a vs _ t1 a1 =>
      cases r2 with
      | @tup b us _ t2 a2 =>
        refine ⟨a, b, vs, us, rfl, .inr ⟨(zip_seq n1.rel.sub).2 t1, (zip_seq n1.rel.sub).2 t2, c _ g1 H1 n1 ?_⟩⟩
        refine zip_ok (R := SqT X.K) (fun H sm => ⟨(zip_seq sm).2 t1, (zip_seq sm).2 t2⟩) a1 a2 (fun i H x y h1 h2 h3 h4 => ⟨_, _, _, _, h1, h2, h3, h4⟩) (fun i H v H' hy => hy) (fun H h1 h2 => ⟨_, _, h1, h2, by omega⟩)
  · obtain ⟨v, u, rfl, r1, r2⟩ := rd2 ra
    cases r1 with
    | @lst a vs _ t1 a1 =>
      cases r2 with
      | @lst b us _ t2 a2 =>
        refine ⟨a, b, vs, us, rfl, .inl ⟨(zip_seq n1.rel.sub).1 t1, (zip_seq n1.rel.sub).1 t2, c _ g1 H1 n1 ?_⟩⟩
        refine zip_ok (R := SqL X.K) (fun H sm => ⟨(zip_seq sm).1 t1, (zip_seq sm).1 t2⟩) a1 a2 (fun i H x y h1 h2 h3 h4 => ⟨_, _, _, _, h1, h2, h3, h4⟩) (fun i H v H' hy => hy) (fun H h1 h2 => ⟨_, _, h1, h2, by omega⟩)
theorem pi_zipS {m : Sm} {fd : Cm (List PyData)} {e e2 : Expr} {p pos tpos kpos cpos : Pos} {elts : List Expr} {kk j : Nat} (hm : m.v = fd.bnd fun ds => .lift (zipD true ds)) (hg : Gl X "zip") (hmg : X.mg "zip" = none) (ha : PA X [e, e2] (tDs X.K F fd))
    (hs : starEach [e, e2] X.env = (false, eval e X.env) :: starEach [e2] X.env) (hpl : (backTo pos (starEach [e2] X.env)).any (·.1) = false) :
    PI X (.Tuple elts kk tpos) (.Call (.Name "zip" p) [e, e2] [⟨some "strict", .Constant (.bool true) j cpos, kpos⟩] pos) (tI X.K F m.src) := by
  refine ⟨fun pins s σ H R I ⟨g, ρ, k, zs, k', Rl, q, c⟩ => (pi_zs hg hmg ha hs hpl).run pins s σ H R I ?_⟩
  obtain ⟨ds, q1, q2⟩ := zip_some hm q
  refine ⟨g, ρ, k, ds, k', Rl, q1, fun vs g1 H1 n1 ra => ?_⟩
  rcases q2 with ⟨xs, ys, rfl, el, rfl⟩ | ⟨xs, ys, rfl, el, rfl⟩
  · obtain ⟨v, u, rfl, r1, r2⟩ := rd2 ra
    cases r1 with
    | @tup a vs _ t1 a1 =>
      cases r2 with
      | @tup b us _ t2 a2 =>
        have el := el rfl
        rw [← a1.length, ← a2.length] at el
        refine ⟨a, b, vs, us, rfl, .inr ⟨(zip_seq n1.rel.sub).2 t1, (zip_seq n1.rel.sub).2 t2, c _ g1 H1 n1 ?_⟩⟩
        refine zip_ok (R := SqT X.K) (fun H sm => ⟨(zip_seq sm).2 t1, (zip_seq sm).2 t2⟩) a1 a2 (fun i H x y h1 h2 h3 h4 => ⟨_, _, _, _, h1, h2, h3, h4⟩) (fun i H v H' hy => hy) (fun H h1 h2 => ⟨_, _, h1, h2, by omega, by omega⟩)
  · obtain ⟨v, u, rfl, r1, r2⟩ := rd2 ra
    cases r1 with
    | @lst a vs _ t1 a1 =>
      cases r2 with
      | @lst b us _ t2 a2 =>
        have el := el rfl
        rw [← a1.length, ← a2.length] at el
        refine ⟨a, b, vs, us, rfl, .inl ⟨(zip_seq n1.rel.sub).1 t1, (zip_seq n1.rel.sub).1 t2, c _ g1 H1 n1 ?_⟩⟩
        refine zip_ok (R := SqL X.K) (fun H sm => ⟨(zip_seq sm).1 t1, (zip_seq sm).1 t2⟩) a1 a2 (fun i H x y h1 h2 h3 h4 => ⟨_, _, _, _, h1, h2, h3, h4⟩) (fun i H v H' hy => hy) (fun H h1 h2 => ⟨_, _, h1, h2, by omega, by omega⟩)
end
end TA

set_option maxHeartbeats 2000000
/-! The check of a printed term against the text, and that it is sound: expressions. -/
namespace TA
open PySem PySem.Spec PyProof.Rows L2

structure Tab where
  fns : List (Str × Nat)
  fr : List Str
  gls : List Str
  kws : List (Nat × List Str)

def visB (sc : Scope) (x : Str) : Bool := match sc.names.lookup x with
  | some .local => true
  | some .cell => true
  | some .free => true
  | _ => false
def locB (sc : Scope) (x : Str) : Bool := match sc.names.lookup x with
  | some .local => true
  | some .cell => true
  | _ => false
def lclB (sc : Scope) (x : Str) : Bool := match sc.names.lookup x with
  | some .local => true
  | _ => false
def glB (sc : Scope) (x : Str) : Bool := match sc.names.lookup x with
  | some .globalImplicit => true
  | _ => false
theorem visB_iff {sc : Scope} {x : Str} (h : visB sc x = true) : Vis sc x := by
  unfold visB at h
  split at h <;> first | exact .inl (by assumption) | exact .inr (.inl (by assumption)) | exact .inr (.inr (by assumption)) | cases h
theorem locB_iff {sc : Scope} {x : Str} (h : locB sc x = true) : Loc sc x := by
  unfold locB at h
  split at h <;> first | exact .inl (by assumption) | exact .inr (by assumption) | cases h
theorem lclB_iff {sc : Scope} {x : Str} (h : lclB sc x = true) : sc.names.lookup x = some .local := by
  unfold lclB at h
  split at h <;> first | assumption | cases h
theorem glB_iff {sc : Scope} {x : Str} (h : glB sc x = true) : sc.names.lookup x = some .globalImplicit := by
  unfold glB at h
  split at h <;> first | assumption | cases h

def okE : Expr → Bool
  | .Starred .. => false
  | .Slice .. => false
  | .Set .. => false
  | _ => true
def plainE : Expr → Bool
  | .UnaryOp .Not _ _ => false
  | .BoolOp .. => false
  | .IfExp .. => false
  | .Compare .. => false
  | _ => true
def baseE : Expr → Bool
  | .Call .. => false
  | _ => true
def noComp : Expr → Bool
  | .ListComp .. => false
  | .SetComp .. => false
  | .DictComp .. => false
  | _ => true
theorem ok_star {X : Cx} {e : Expr} {es : List Expr} (h : okE e = true) : NoStar X e es := by
  cases e <;> first | rfl | cases h
theorem ok_ix {e : Expr} (h : okE e = true) : PlainIx e := by
  cases e <;> first | (intro o i; rfl) | cases h
theorem ok_fs {e : Expr} {env : PySem.Env} (h : okE e = true) (x : Value) : foldedSetIterable e env x = pure x := by
  cases e <;> first | rfl | cases h
theorem ok_mark {e : Expr} {op : CmpOp} (h : okE e = true) : behindInMarks op e = false := by
  cases e <;> first | rfl | cases h
theorem ok_plain {X : Cx} {e : Expr} (h : plainE e = true) : Plain X e := by
  cases e with
  | UnaryOp op a p => cases op <;> first | (intro w; rfl) | cases h
  | _ => first | (intro w; rfl) | cases h
theorem ok_base {e : Expr} {a : Str} {env : PySem.Env} {w : Sem Value} (h : baseE e = true) : attributeBase e a env w = w := by
  cases e <;> first | rfl | cases h
theorem ok_swap {e : Expr} {t : Option Expr} {n : Nat} {env : PySem.Env} (h : noComp e = true) : swapsWith e t n env = pure false := by
  cases e <;> first | rfl | cases h

/-! ### targets -/
def tgNames : List Expr → Option (List Str)
  | [] => some []
  | .Name x _ :: r => (tgNames r).map (x :: ·)
  | _ :: _ => none
def nameOk (N : List Str) (sc : Scope) (fn : Str → Bool) (i : Nat) (x : Str) : Bool := decide (N[i]? = some x) && locB sc x && (fn x || lclB sc x)
def namesOk (N : List Str) (sc : Scope) (fn : Str → Bool) : List Nat → List Expr → Bool
  | [], [] => true
  | i :: is, .Name x _ :: r => nameOk N sc fn i x && namesOk N sc fn is r
  | _, _ => false
def tgOk (N : List Str) (sc : Scope) (fn : Str → Bool) : Tg → Expr → Bool
  | .one i, .Name x _ => nameOk N sc fn i x
  | .many is, .Tuple es _ _ => namesOk N sc fn is es
  | _, _ => false
def ownOf : Tg → Expr → List (Str × Nat)
  | .one i, .Name x _ => [(x, i)]
  | .many is, .Tuple es _ _ => ((tgNames es).getD []).zip is
  | _, _ => []
section
variable {X : Cx}
theorem pg_one {sc : Scope} {i : Nat} {x : Str} {pos : Pos} (hN : X.N.Nodup) (hs : X.env.scope = sc) (h : nameOk X.N sc X.fn i x = true) : PG X (.Name x pos) (gName i) := by
  subst hs
  simp only [nameOk, Bool.and_eq_true, decide_eq_true_eq, Bool.or_eq_true] at h
  exact pg_name hN h.1.1 (locB_iff h.1.2) (h.2.imp id lclB_iff)
theorem pg_names {sc : Scope} (hN : X.N.Nodup) (hs : X.env.scope = sc) : ∀ {is : List Nat} {es : List Expr}, namesOk X.N sc X.fn is es = true → PGs X es (gAll is) ∧ (assignEach es X.env).length = is.length ∧ (assignEach es X.env).findIdx? (·.1) = none
  | [], [], _ => ⟨pgs_nil, rfl, rfl⟩
  | [], _ :: _, h => by simp [namesOk] at h
  | _ :: _, [], h => by simp [namesOk] at h
  | i :: is, e :: r, h => by
    cases e with
    | Name x p =>
      simp only [namesOk, Bool.and_eq_true] at h
      obtain ⟨a, b, c⟩ := pg_names hN hs h.2
      refine ⟨pgs_cons (pg_one hN hs h.1) a rfl, ?_, ?_⟩
      · show ((false, _) :: assignEach r X.env).length = _
        rw [List.length_cons, b]; rfl
      · show ((false, _) :: assignEach r X.env).findIdx? (·.1) = none
        rw [List.findIdx?_cons, c]; rfl
    | _ => simp [namesOk] at h
theorem pg_tg {sc : Scope} {t : Tg} {e : Expr} (hc : X.calm = true) (hN : X.N.Nodup) (hs : X.env.scope = sc) (h : tgOk X.N sc X.fn t e = true) : PG X e (gT X.K t) := by
  cases t with
  | one i =>
    cases e with
    | Name x p => exact pg_one hN hs h
    | _ => simp [tgOk] at h
  | many is =>
    cases e with
    | Tuple es k p =>
      obtain ⟨a, b, c⟩ := pg_names hN hs (show namesOk X.N sc X.fn is es = true from h)
      exact pg_tup hc a b c
    | _ => simp [tgOk] at h
end
theorem names_tg {N : List Str} {sc : Scope} {fn : Str → Bool} : ∀ {is : List Nat} {es : List Expr}, namesOk N sc fn is es = true → ∃ xs, tgNames es = some xs ∧ xs.length = is.length
  | [], [], _ => ⟨[], rfl, rfl⟩
  | [], _ :: _, h => by simp [namesOk] at h
  | _ :: _, [], h => by simp [namesOk] at h
  | i :: is, e :: r, h => by
    cases e with
    | Name x p =>
      simp only [namesOk, Bool.and_eq_true] at h
      obtain ⟨xs, a, b⟩ := names_tg h.2
      exact ⟨x :: xs, by simp [tgNames, a], by simp [b]⟩
    | _ => simp [namesOk] at h
theorem own_slots {N : List Str} {sc : Scope} {fn : Str → Bool} {t : Tg} {e : Expr} (h : tgOk N sc fn t e = true) : (ownOf t e).map (·.2) = t.slots := by
  cases t with
  | one i =>
    cases e with
    | Name x p => rfl
    | _ => simp [tgOk] at h
  | many is =>
    cases e with
    | Tuple es k p =>
      obtain ⟨xs, a, b⟩ := names_tg (show namesOk N sc fn is es = true from h)
      show List.map (·.2) (((tgNames es).getD []).zip is) = is
      rw [a]
      show List.map (·.2) (xs.zip is) = is
      clear a h
      induction xs generalizing is with
      | nil => cases is with
        | nil => rfl
        | cons _ _ => simp at b
      | cons x xs ih => cases is with
        | nil => simp at b
        | cons i is => simp only [List.zip_cons_cons, List.map_cons]; rw [ih _ (by simpa using b)]
    | _ => simp [tgOk] at h

/-! ### the check -/
def isTup : Expr → Bool
  | .Tuple .. => true
  | _ => false
def fnC (scope : Scope) : Str → Bool := fun x => scope.names.lookup x == some .cell
def kwNames : List Keyword → Option (List Str)
  | [] => some []
  | ⟨some x, _, _⟩ :: r => (kwNames r).map (x :: ·)
  | _ :: _ => none
def frB (T : Tab) (sc : Scope) (x : Str) : Bool := glB sc x && T.fr.contains x
mutual
def chkE (T : Tab) (N : List Str) : E → Scope → Option Bool → Expr → Bool
  | .var i => fun sc _ ex => match ex with
    | .Name x _ => decide (N[i]? = some x) && visB sc x && !(x == ("__debug__" : Str)) && !(x == ("__classdict__" : Str))
    | _ => false
  | .non => fun _ _ ex => match ex with
    | .Constant .none _ _ => true
    | _ => false
  | .bl b => fun _ _ ex => match ex with
    | .Constant (.bool b') _ _ => decide (b = b')
    | _ => false
  | .int i => fun _ _ ex => match ex with
    | .Constant (.int i') _ _ => decide (i = i')
    | _ => false
  | .str x => fun _ _ ex => match ex with
    | .Constant (.str x') _ _ => decide (x = x')
    | _ => false
  | .glb n => fun sc _ ex => match ex with
    | .Name x _ => decide (T.gls[n]? = some x) && glB sc x && !(x == ("__debug__" : Str))
    | _ => false
  | .tup es => fun sc _ ex => match ex with
    | .Tuple es' _ _ => chkEs T N es sc es' && decide (es'.length ≤ 100)
    | _ => false
  | .lst es => fun sc _ ex => match ex with
    | .List es' _ => chkEs T N es sc es' && decide (es'.length ≤ 100)
    | _ => false
  | .bin op a b => fun sc _ ex => match ex with
    | .BinOp a' op' b' _ => decide (op = op') && chkE T N a sc none a' && chkE T N b sc none b'
    | _ => false
  | .neg a => fun sc _ ex => match ex with
    | .UnaryOp .USub a' _ => chkE T N a sc none a'
    | _ => false
  | .cmp op a b => fun sc _ ex => match ex with
    | .Compare a' [op'] [b'] _ => decide (op = op') && chkE T N a sc none a' && chkE T N b sc none b'
    | _ => false
  | .chain o1 o2 a b c => fun sc _ ex => match ex with
    | .Compare a' [o1', o2'] [b', c'] _ => decide (o1 = o1') && decide (o2 = o2') && chkE T N a sc none a' && chkE T N b sc none b' && chkE T N c sc none c'
    | _ => false
  | .isN a => fun sc _ ex => match ex with
    | .Compare a' [.Is] [.Constant .none _ _] _ => chkE T N a sc none a'
    | _ => false
  | .notN a => fun sc _ ex => match ex with
    | .Compare a' [.IsNot] [.Constant .none _ _] _ => chkE T N a sc none a'
    | _ => false
  | .not a => fun sc _ ex => match ex with
    | .UnaryOp .Not a' _ => chkE T N a sc none a'
    | _ => false
  | .bop true es => fun sc _ ex => match ex with
    | .BoolOp .And es' _ => !es'.isEmpty && chkEs T N es sc es'
    | _ => false
  | .bop false es => fun sc _ ex => match ex with
    | .BoolOp .Or es' _ => !es'.isEmpty && chkEs T N es sc es'
    | _ => false
  | .ife t a b => fun sc _ ex => match ex with
    | .IfExp t' a' b' _ => chkE T N t sc none t' && chkE T N a sc none a' && chkE T N b sc none b'
    | _ => false
  | .idx a i => fun sc _ ex => match ex with
    | .Subscript a' i' _ => chkE T N a sc none a' && chkE T N i sc none i'
    | _ => false
  | .slA a lo => fun sc _ ex => match ex with
    | .Subscript a' (.Slice (some l) none none _) _ => chkE T N a sc none a' && chkE T N lo sc none l
    | _ => false
  | .slB a hi => fun sc _ ex => match ex with
    | .Subscript a' (.Slice none (some h) none _) _ => chkE T N a sc none a' && chkE T N hi sc none h
    | _ => false
  | .slAB a lo hi => fun sc _ ex => match ex with
    | .Subscript a' (.Slice (some l) (some h) none _) _ => chkE T N a sc none a' && chkE T N lo sc none l && chkE T N hi sc none h
    | _ => false
  | .rev a => fun sc _ ex => match ex with
    | .Subscript a' (.Slice none none (some (.UnaryOp .USub (.Constant (.int i) _ _) _)) _) _ => decide (i = 1) && chkE T N a sc none a'
    | _ => false
  | .call f es => fun sc _ ex => match ex with
    | .Call (.Name x _) es' [] _ => (match T.fns[f]? with
      | some q => decide (q.1 = x)
      | none => false) && glB sc x && !(x == ("__debug__" : Str)) && chkEs T N es sc es'
    | _ => false
  | .callk f kn ks => fun sc _ ex => match ex with
    | .Call (.Name x _) [] kws _ => (match T.fns[f]? with
      | some q => decide (q.1 = x)
      | none => false) && decide ((T.kws[kn]?).map (·.1) = some f) && decide (kwNames kws = (T.kws[kn]?).map (·.2)) && glB sc x && !(x == ("__debug__" : Str)) && chkEs T N ks sc (kws.map (·.value))
    | _ => false
  | .blt b es => fun sc _ ex => match ex with
    | .Call (.Name x _) es' [] _ => decide (b.name = x) && frB T sc x && !es'.isEmpty && chkEs T N es sc es'
    | _ => false
  | .isi a ts => fun sc _ ex => match ex with
    | .Call (.Name x _) [a', .Name y _] [] _ => decide (x = "isinstance") && frB T sc x && (match ts with
      | [t] => decide (t.sname = y)
      | _ => false) && frB T sc y && chkE T N a sc none a'
    | _ => false
  | .comp elt tg src => fun sc _ ex => match ex with
    | .ListComp elt' [⟨tge, iter, [], 0⟩] scope _ => chkE T N src sc (some (isTup tge)) iter && blkC N sc scope (ownOf tg tge) && tgOk N (relS scope sc) (fnC scope) tg tge && chkE T N elt (relS scope sc) none elt'
    | _ => false
  | .compIf elt tg src c => fun sc _ ex => match ex with
    | .ListComp elt' [⟨tge, iter, [c'], 0⟩] scope _ => chkE T N src sc (some (isTup tge)) iter && blkC N sc scope (ownOf tg tge) && tgOk N (relS scope sc) (fnC scope) tg tge && chkE T N elt (relS scope sc) none elt' && chkE T N c (relS scope sc) none c'
    | _ => false
  | .dict0 => fun _ _ ex => match ex with
    | .Dict [] [] _ => true
    | _ => false
  | .dict1 a b => fun sc _ ex => match ex with
    | .Dict [some a'] [b'] _ => chkE T N a sc none a' && chkE T N b sc none b'
    | _ => false
  | .rng1 a => fun sc src ex => match ex with
    | .Call (.Name x _) [a'] [] _ => src.isSome && decide (x = "range") && frB T sc x && chkE T N a sc none a'
    | _ => false
  | .rng2 a b => fun sc src ex => match ex with
    | .Call (.Name x _) [a', b'] [] _ => src.isSome && decide (x = "range") && frB T sc x && chkE T N a sc none a' && chkE T N b sc none b'
    | _ => false
  | .zip false a b => fun sc src ex => match ex with
    | .Call (.Name x _) [a', b'] [] _ => decide (src = some true) && decide (x = "zip") && frB T sc x && chkE T N a sc none a' && chkE T N b sc none b'
    | _ => false
  | .zip true a b => fun sc src ex => match ex with
    | .Call (.Name x _) [a', b'] [⟨some y, .Constant (.bool v) _ _, _⟩] _ => decide (src = some true) && decide (x = "zip") && decide (y = "strict") && v && frB T sc x && chkE T N a sc none a' && chkE T N b sc none b'
    | _ => false
  | .enum _ => fun _ _ _ => false
  | .join a b => fun sc _ ex => match ex with
    | .Call (.Attribute a' m ap) [b'] [] p => decide (m = "join") && baseE a' && decide (ap.endLine = p.line) && chkE T N a sc none a' && chkE T N b sc none b'
    | _ => false
  | .split a b => fun sc _ ex => match ex with
    | .Call (.Attribute a' m ap) [b'] [] p => decide (m = "split") && baseE a' && decide (ap.endLine = p.line) && chkE T N a sc none a' && chkE T N b sc none b'
    | _ => false
  | .dkTot i => fun sc _ ex => match ex with
    | .Subscript (.Name x _) (.Constant (.int n) _ _) _ => decide (n = 1) && decide (N[i]? = some x) && visB sc x && !(x == ("__debug__" : Str)) && !(x == ("__classdict__" : Str))
    | _ => false
  | .dkCnt i => fun sc _ ex => match ex with
    | .Subscript (.Name x _) (.Constant (.int n) _ _) _ => decide (n = 2) && decide (N[i]? = some x) && visB sc x && !(x == ("__debug__" : Str)) && !(x == ("__classdict__" : Str))
    | _ => false
  | .dkNE i => fun sc _ ex => match ex with
    | .Compare (.Subscript (.Name x _) (.Constant (.int n) _ _) _) [.NotEq] [.List [] _] _ => decide (n = 0) && decide (N[i]? = some x) && visB sc x && !(x == ("__debug__" : Str)) && !(x == ("__classdict__" : Str))
    | _ => false
  | .dkPop i => fun sc _ ex => match ex with
    | .Call (.Attribute (.Subscript (.Name x _) (.Constant (.int n) _ _) _) m ap) [] [] p => decide (n = 0) && decide (m = "pop") && decide (ap.endLine = p.line) && decide (N[i]? = some x) && visB sc x && !(x == ("__debug__" : Str)) && !(x == ("__classdict__" : Str))
    | _ => false
def chkEs (T : Tab) (N : List Str) : Es → Scope → List Expr → Bool
  | .nil => fun _ es' => es'.isEmpty
  | .cons e es => fun sc es' => match es' with
    | [] => false
    | e' :: r => chkE T N e sc none e' && chkEs T N es sc r
end

/-! ### what the text stands in -/
structure Okx (T : Tab) (C : Ctx) (N : List Str) (n : Nat) (X : Cx) (sc : Scope) : Prop where
  hN : X.N = N
  nd : N.Nodup
  hsc : X.env.scope = sc
  calm : X.calm = true
  pas : PassesOwn (model X.prog X.w) X.A X.env X.xe
  sys : SysOk X
  gd : X.A.guards = some []
  room : Room n X.A
  fr : ∀ x, T.fr.contains x = true → X.mg x = none
  gls : ∀ (i : Nat) x, T.gls[i]? = some x → ∃ u v, X.mg x = some u ∧ RelV v u ∧ ∀ d, C.gl[i]? = some d → ∀ G, Rd X.K G v d
  fns : ∀ (i : Nat) q, T.fns[i]? = some q → ∃ f fd ps, FnG X.prog X.w X.K X.mg X.base n f fd ps (spD X.K q.2 (C.cl i)) ∧ X.mg q.1 = some (.ref f) ∧ PySem.W.keepIn X.K (.ref f) = true ∧ Binds X.K fd ps [] ∧
    (∀ (kn : Nat) ks, T.kws[kn]? = some (i, ks) → ∃ pm, C.kw[kn]? = some pm ∧ ∀ (s : Shared) (ws : List Value), X.K.In s.heap → ws.length = ks.length → BindsTo s fd ⟨[], ks.zip ws⟩ (ps.zip (permL pm ws)))
  len : ∀ (i : Nat) q, T.fns[i]? = some q → ∀ xs k r, C.cl i xs k = some r → xs.length = q.2
theorem Okx.un {T : Tab} {C : Ctx} {N : List Str} {n : Nat} {X : Cx} {sc : Scope} (o : Okx T C N n X sc) : X.A.units + 101 < cLine := by have := o.room.un; omega
theorem Okx.blk {T : Tab} {C : Ctx} {N : List Str} {n : Nat} {X : Cx} {sc : Scope} (o : Okx T C N n X sc) (s : Shared) (H : Hp) (scope : Scope) (D : Addr) (cl : List (Str × Addr)) (fp : List Addr) : Okx T C N n (blkX X s H scope D cl fp) (relS scope sc) where
  hN := o.hN
  nd := o.nd
  hsc := by rw [← o.hsc]; rfl
  calm := o.calm
  pas := PassesOwn.never
  sys := o.sys
  gd := o.gd
  room := o.room
  fr := o.fr
  gls := o.gls
  fns := o.fns
  len := o.len
end TA

set_option maxHeartbeats 4000000
/-! The check is sound: expressions. -/
namespace TA
open PySem PySem.Spec PyProof.Rows L2

structure V3 (X : Cx) (F : Fm) (ex : Expr) (m : Sm) : Prop where
  ok : okE ex = true
  v : PE X ex (tV X.K F m.v)
  o : PE X ex (tO X.K F m.o)
  t : PT X ex (tT X.K F m.t)
section
variable {X : Cx} {F : Fm} {ex : Expr}
theorem V3.ofV {f : Cm DV} (ok : okE ex = true) (pl : plainE ex = true) (h : PE X ex (tV X.K F f)) : V3 X F ex (smV f) := ⟨ok, h, o_of_v h, t_of_v rfl h (ok_plain pl)⟩
theorem V3.ofB {f : Cm Bool} (ok : okE ex = true) (h : PE X ex (tO X.K F (f.bnd fun b => .ret (.bool b)))) (ht : PT X ex (tT X.K F f)) : V3 X F ex (smB f) := ⟨ok, v_of_b h, h, ht⟩
theorem pt_never {e : Expr} : PT X e (tT X.K F fun _ _ => none) := ⟨fun _ _ _ _ _ _ ⟨_, _, _, _, _, _, q, _⟩ => by cases q⟩
theorem t_of_b {f : Cm Bool} (ok : okE ex = true) (pl : plainE ex = true) (h : PE X ex (tO X.K F (f.bnd fun b => .ret (.bool b)))) : PT X ex (tT X.K F f) := by
  have q := t_of_v rfl (v_of_b h) (ok_plain pl) (F := F)
  refine q.imp fun σ H Q ⟨g, ρ, k, b, k', R, z, c⟩ => ⟨g, ρ, k, b, k', R, ?_, c⟩
  simp only [Cm.bnd, Cm.ret, Cm.lift, z, DV.dat, Option.bind, truthD]
def AllV (X : Cx) (F : Fm) : List Expr → List Sm → Prop
  | [], [] => True
  | e :: es, m :: ms => V3 X F e m ∧ AllV X F es ms
  | _, _ => False
theorem AllV.ds : ∀ {es : List Expr} {ms : List Sm}, AllV X F es ms → PA X es (tDs X.K F (datsL ms))
  | [], [], _ => ds_nil
  | _ :: _, _ :: _, h => ds_cons h.1.v (AllV.ds h.2) (ok_star h.1.ok)
  | [], _ :: _, h => h.elim
  | _ :: _, [], h => h.elim
theorem AllV.os : ∀ {es : List Expr} {ms : List Sm}, AllV X F es ms → PA X es (tOs X.K F (opdsL ms))
  | [], [], _ => os_nil
  | _ :: _, _ :: _, h => os_cons h.1.o (AllV.os h.2) (ok_star h.1.ok)
  | [], _ :: _, h => h.elim
  | _ :: _, [], h => h.elim
theorem AllV.as : ∀ {es : List Expr} {ms : List Sm}, AllV X F es ms → PA X es (tAs X.K F (argsL ms))
  | [], [], _ => as_nil
  | _ :: _, _ :: _, h => as_cons h.1.v (AllV.as h.2) (ok_star h.1.ok)
  | [], _ :: _, h => h.elim
  | _ :: _, [], h => h.elim
theorem AllV.len : ∀ {es : List Expr} {ms : List Sm}, AllV X F es ms → ms.length = es.length
  | [], [], _ => rfl
  | _ :: _, _ :: _, h => by rw [List.length_cons, List.length_cons, AllV.len h.2]
  | [], _ :: _, h => h.elim
  | _ :: _, [], h => h.elim
theorem AllV.nostar {pos : Pos} : ∀ {es : List Expr} {ms : List Sm}, AllV X F es ms → (backTo pos (starEach es X.env)).any (·.1) = false
  | [], [], _ => rfl
  | e :: es, _ :: _, h => by
    have q : starEach (e :: es) X.env = (false, eval e X.env) :: starEach es X.env := ok_star h.1.ok
    rw [q]
    show (backTo pos ((false, eval e X.env) :: starEach es X.env)).any (·.1) = false
    have ih := AllV.nostar (pos := pos) h.2
    simpa [backTo] using ih
  | [], _ :: _, h => h.elim
  | _ :: _, [], h => h.elim
theorem AllV.bopV_and {pos : Pos} : ∀ {es : List Expr} {ms : List Sm}, AllV X F es ms → es ≠ [] → PE X (.BoolOp .And es pos) (tV X.K F (bopV true ms))
  | [], _, _, h => absurd rfl h
  | [a], [m], h, _ => bop_one h.1.v
  | a :: b :: r, m :: m2 :: ms, h, _ => bop_and h.1.v (AllV.bopV_and (es := b :: r) (ms := m2 :: ms) h.2 (by simp))
  | [_], _ :: _ :: _, h, _ => h.2.elim
  | _ :: _ :: _, [_], h, _ => h.2.elim
  | _ :: _, [], h, _ => h.elim
theorem AllV.bopV_or {pos : Pos} : ∀ {es : List Expr} {ms : List Sm}, AllV X F es ms → es ≠ [] → PE X (.BoolOp .Or es pos) (tV X.K F (bopV false ms))
  | [], _, _, h => absurd rfl h
  | [a], [m], h, _ => bop_one h.1.v
  | a :: b :: r, m :: m2 :: ms, h, _ => bop_or h.1.v (AllV.bopV_or (es := b :: r) (ms := m2 :: ms) h.2 (by simp))
  | [_], _ :: _ :: _, h, _ => h.2.elim
  | _ :: _ :: _, [_], h, _ => h.2.elim
  | _ :: _, [], h, _ => h.elim
theorem AllV.bopT_and {pos : Pos} : ∀ {es : List Expr} {ms : List Sm}, AllV X F es ms → es ≠ [] → PW X (.BoolOp .And es pos) (tT X.K F (bopT true ms))
  | [], _, _, h => absurd rfl h
  | [a], [m], h, _ => pw_and1 h.1.t
  | a :: b :: r, m :: m2 :: ms, h, _ => bot_and h.1.t (AllV.bopT_and (es := b :: r) (ms := m2 :: ms) h.2 (by simp))
  | [_], _ :: _ :: _, h, _ => h.2.elim
  | _ :: _ :: _, [_], h, _ => h.2.elim
  | _ :: _, [], h, _ => h.elim
theorem AllV.bopT_or {pos : Pos} : ∀ {es : List Expr} {ms : List Sm}, AllV X F es ms → es ≠ [] → PW X (.BoolOp .Or es pos) (tT X.K F (bopT false ms))
  | [], _, _, h => absurd rfl h
  | [a], [m], h, _ => pw_or1 h.1.t
  | a :: b :: r, m :: m2 :: ms, h, _ => bot_or h.1.t (AllV.bopT_or (es := b :: r) (ms := m2 :: ms) h.2 (by simp))
  | [_], _ :: _ :: _, h, _ => h.2.elim
  | _ :: _ :: _, [_], h, _ => h.2.elim
  | _ :: _, [], h, _ => h.elim
theorem argsL_len : ∀ (ms : List Sm) (ρ : Env) (k : OD) (ds : List DV) (k' : OD), argsL ms ρ k = some (ds, k') → ds.length = ms.length
  | [], ρ, k, ds, k', h => by obtain ⟨rfl, rfl⟩ := ret_some (show Cm.ret [] ρ k = _ from h); rfl
  | m :: ms, ρ, k, ds, k', h => by
    obtain ⟨x, k1, h1, h⟩ := bnd_some (show (m.v.bnd fun x => (argsL ms).bnd fun xs => Cm.ret (x.fz :: xs)) ρ k = _ from h)
    obtain ⟨xs, k2, h2, h⟩ := bnd_some h
    obtain ⟨rfl, rfl⟩ := ret_some h
    rw [List.length_cons, List.length_cons, argsL_len ms _ _ _ _ h2]
theorem AllV.kw : ∀ {kws : List Keyword} {ms : List Sm}, AllV X F (kws.map (·.value)) ms → PK X kws (tAs X.K F (argsL ms))
  | [], [], _ => ks_nil
  | ⟨_, _, _⟩ :: _, _ :: _, h => ks_cons h.1.v (AllV.kw h.2)
  | [], _ :: _, h => h.elim
  | _ :: _, [], h => h.elim
theorem kw_names {pos : Pos} {env : PySem.Env} : ∀ {kws : List Keyword} {ks : List Str}, kwNames kws = some ks → (backToKw pos (keywordEach kws env)).all (·.1.isSome) = true ∧ (backToKw pos (keywordEach kws env)).filterMap (·.1) = ks ∧ (backToKw pos (keywordEach kws env)).any (·.1.isNone) = false
  | [], ks, h => by cases h; exact ⟨rfl, rfl, rfl⟩
  | ⟨some x, e, p⟩ :: r, ks, h => by
    simp only [kwNames, Option.map_eq_some_iff] at h
    obtain ⟨ks', h, rfl⟩ := h
    obtain ⟨a, b, c⟩ := kw_names (pos := pos) (env := env) h
    refine ⟨?_, ?_, ?_⟩
    · simpa [keywordEach, backToKw] using a
    · simpa [keywordEach, backToKw] using b
    · simpa [keywordEach, backToKw] using c
  | ⟨none, e, p⟩ :: r, ks, h => by cases h
theorem kw_len : ∀ {kws : List Keyword} {ks : List Str}, kwNames kws = some ks → kws.length = ks.length
  | [], ks, h => by cases h; rfl
  | ⟨some x, e, p⟩ :: r, ks, h => by
    simp only [kwNames, Option.map_eq_some_iff] at h
    obtain ⟨ks', h, rfl⟩ := h
    rw [List.length_cons, List.length_cons, kw_len h]
  | ⟨none, e, p⟩ :: r, ks, h => by cases h
theorem pts_yes : PTs X [] (tT X.K F (.ret true)) := ⟨fun pins s σ H Q I ⟨g, ρ, k, b, k', R, q, c⟩ => by
  obtain ⟨rfl, rfl⟩ := ret_some q
  exact pts_nil.run pins s σ H Q I (c g H (Nxt.refl R))⟩
end
/-- what a checked term gives -/
def Snd (X : Cx) (F : Fm) (src : Option Bool) (ex : Expr) (m : Sm) : Prop := okE ex = true ∧ (src = none → V3 X F ex m) ∧ ∀ tp, src = some tp → ∀ tge, isTup tge = tp → PI X tge ex (tI X.K F m.src)
theorem V3.snd {X : Cx} {F : Fm} {ex : Expr} {m : Sm} {src : Option Bool} (h : V3 X F ex m) : Snd X F src ex m := ⟨h.ok, fun _ => h, fun _ _ _ _ => pi_data h.v⟩
theorem Snd.v {X : Cx} {F : Fm} {ex : Expr} {m : Sm} (h : Snd X F none ex m) : V3 X F ex m := h.2.1 rfl
theorem Snd.i {X : Cx} {F : Fm} {ex tge : Expr} {m : Sm} (h : Snd X F (some (isTup tge)) ex m) : PI X tge ex (tI X.K F m.src) := h.2.2 _ rfl _ rfl
section
variable {T : Tab} {C : Ctx} {N : List Str} {n : Nat} {X : Cx} {sc : Scope}
theorem frB_iff {x : Str} (o : Okx T C N n X sc) (h : frB T sc x = true) : Gl X x ∧ X.mg x = none := by
  rw [frB, Bool.and_eq_true] at h
  refine ⟨?_, o.fr x h.2⟩
  show X.env.scope.names.lookup x = _
  rw [o.hsc]
  exact glB_iff h.1
theorem gl_iff {x : Str} (o : Okx T C N n X sc) (h : glB sc x = true) : Gl X x := by
  show X.env.scope.names.lookup x = _
  rw [o.hsc]
  exact glB_iff h
theorem var_ok {i : Nat} {x : Str} {p : Pos} (o : Okx T C N n X sc) (h1 : N[i]? = some x) (h2 : visB sc x = true) (h3 : (x == ("__debug__" : Str)) = false) (h4 : (x == ("__classdict__" : Str)) = false) : PE X (.Name x p) (tVar i) :=
  pe_var (by rw [o.hN]; exact h1) (by rw [o.hsc]; exact visB_iff h2) h3 h4
end
end TA

set_option maxHeartbeats 8000000
/-! The check is sound: the induction over expressions. -/
namespace TA
open PySem PySem.Spec PyProof.Rows L2
variable {T : Tab} {C : Ctx} {N : List Str} {n : Nat} {F : Fm}
mutual
theorem sndE : ∀ (e : E) (X : Cx) (sc : Scope) (src : Option Bool) (ex : Expr), Okx T C N n X sc → chkE T N e sc src ex = true → Snd X F src ex (evA C e)
  | .var i, X, sc, src, ex, o, h => by
    simp only [chkE] at h
    split at h
    · simp only [Bool.and_eq_true, decide_eq_true_eq, Bool.not_eq_true'] at h
      have q := fun p => var_ok (p := p) o h.1.1.1 h.1.1.2 h.1.2 h.2
      exact (V3.mk rfl (pv_var (q _)) (po_var (q _)) (t_of_o rfl (po_var (q _)) (ok_plain rfl))).snd
    · cases h
  | .non, X, sc, src, ex, o, h => by
    simp only [chkE] at h
    split at h
    · exact (V3.ofV rfl rfl (pv_cst pe_non fun _ => .non)).snd
    · cases h
  | .bl b, X, sc, src, ex, o, h => by
    simp only [chkE] at h
    split at h
    · simp only [Bool.and_eq_true, decide_eq_true_eq, Bool.not_eq_true'] at h; subst h
      exact (V3.ofV rfl rfl (pv_cst pe_bl fun _ => .bl _)).snd
    · cases h
  | .int i, X, sc, src, ex, o, h => by
    simp only [chkE] at h
    split at h
    · simp only [Bool.and_eq_true, decide_eq_true_eq, Bool.not_eq_true'] at h; subst h
      exact (V3.ofV rfl rfl (pv_cst pe_int fun _ => .int _)).snd
    · cases h
  | .str x, X, sc, src, ex, o, h => by
    simp only [chkE] at h
    split at h
    · simp only [Bool.and_eq_true, decide_eq_true_eq, Bool.not_eq_true'] at h; subst h
      exact (V3.ofV rfl rfl (pv_cst pe_str fun _ => .str _)).snd
    · cases h
  | .glb m, X, sc, src, ex, o, h => by
    simp only [chkE] at h
    split at h
    · simp only [Bool.and_eq_true, decide_eq_true_eq, Bool.not_eq_true'] at h
      obtain ⟨u, v, h1, h2, h3⟩ := o.gls _ _ h.1.1
      refine (V3.ofV rfl rfl (pv_glb (pe_glob (gl_iff o h.1.2) h1 h2 h.2) fun x e => ?_)).snd
      rw [Option.map_eq_some_iff] at e
      obtain ⟨d, e1, rfl⟩ := e
      exact ⟨d, rfl, h3 d e1⟩
    · cases h
  | .tup es, X, sc, src, ex, o, h => by
    simp only [chkE] at h
    split at h
    · simp only [Bool.and_eq_true, decide_eq_true_eq, Bool.not_eq_true'] at h
      have q := sndEs es X sc _ o h.1
      exact (V3.ofV rfl rfl (pv_tup q.ds h.2 fun ρ k ds k' z => by rw [datsL_len _ _ _ _ _ z, q.len])).snd
    · cases h
  | .lst es, X, sc, src, ex, o, h => by
    simp only [chkE] at h
    split at h
    · simp only [Bool.and_eq_true, decide_eq_true_eq, Bool.not_eq_true'] at h
      have q := sndEs es X sc _ o h.1
      exact (V3.ofV rfl rfl (pv_lst q.ds h.2 fun ρ k ds k' z => by rw [datsL_len _ _ _ _ _ z, q.len])).snd
    · cases h
  | .bin op a b, X, sc, src, ex, o, h => by
    simp only [chkE] at h
    split at h
    · simp only [Bool.and_eq_true, decide_eq_true_eq, Bool.not_eq_true'] at h
      obtain ⟨⟨rfl, h1⟩, h2⟩ := h
      exact (V3.ofV rfl rfl (pv_bin (sndE a X sc none _ o h1).v.o (sndE b X sc none _ o h2).v.o)).snd
    · cases h
  | .neg a, X, sc, src, ex, o, h => by
    simp only [chkE] at h
    split at h
    · exact (V3.ofV rfl rfl (pv_neg (sndE a X sc none _ o h).v.o)).snd
    · cases h
  | .cmp op a b, X, sc, src, ex, o, h => by
    simp only [chkE] at h
    split at h
    · simp only [Bool.and_eq_true, decide_eq_true_eq, Bool.not_eq_true'] at h
      obtain ⟨⟨rfl, h1⟩, h2⟩ := h
      have qa := (sndE a X sc none _ o h1).v
      have qb := (sndE b X sc none _ o h2).v
      have hu := o.un
      exact (V3.ofB rfl (po_cmp (by omega) qa.o qb.o (ok_mark qb.ok)) (pt_cmpD (by omega) qa.o qb.o (ok_mark qb.ok))).snd
    · cases h
  | .chain o1 o2 a b c, X, sc, src, ex, o, h => by
    simp only [chkE] at h
    split at h
    · simp only [Bool.and_eq_true, decide_eq_true_eq, Bool.not_eq_true'] at h
      obtain ⟨⟨⟨⟨rfl, rfl⟩, h1⟩, h2⟩, h3⟩ := h
      have qa := (sndE a X sc none _ o h1).v
      have qb := (sndE b X sc none _ o h2).v
      have qc := (sndE c X sc none _ o h3).v
      have hu := o.un
      exact (V3.ofB rfl (po_chain (by omega) qa.o qb.o qc.o (ok_mark qc.ok)) (pt_chainD (by omega) qa.o qb.o qc.o (ok_mark qc.ok))).snd
    · cases h
  | .isN a, X, sc, src, ex, o, h => by
    simp only [chkE] at h
    split at h
    · have qa := (sndE a X sc none _ o h).v
      exact (V3.ofB rfl (po_isN qa.o) (pt_isN qa.o)).snd
    · cases h
  | .notN a, X, sc, src, ex, o, h => by
    simp only [chkE] at h
    split at h
    · have qa := (sndE a X sc none _ o h).v
      exact (V3.ofB rfl (po_notN qa.o) (pt_notN qa.o)).snd
    · cases h
  | .not a, X, sc, src, ex, o, h => by
    simp only [chkE] at h
    split at h
    · have qa := (sndE a X sc none _ o h).v
      exact (V3.mk rfl (v_of_b (po_not qa.o)) (po_not qa.o) (pt_notD qa.t)).snd
    · cases h
  | .bop true es, X, sc, src, ex, o, h => by
    simp only [chkE] at h
    split at h
    · simp only [Bool.and_eq_true, decide_eq_true_eq, Bool.not_eq_true'] at h
      have q := sndEs es X sc _ o h.2
      have ne : ∀ z : List Expr, z.isEmpty = false → z ≠ [] := by
        intro z q e; subst e; cases q
      have v := fun pos => q.bopV_and (pos := pos) (ne _ h.1)
      exact (V3.mk rfl (v _) (o_of_v (v _)) (q.bopT_and (ne _ h.1)).pt).snd
    · cases h
  | .bop false es, X, sc, src, ex, o, h => by
    simp only [chkE] at h
    split at h
    · simp only [Bool.and_eq_true, decide_eq_true_eq, Bool.not_eq_true'] at h
      have q := sndEs es X sc _ o h.2
      have ne : ∀ z : List Expr, z.isEmpty = false → z ≠ [] := by
        intro z q e; subst e; cases q
      have v := fun pos => q.bopV_or (pos := pos) (ne _ h.1)
      exact (V3.mk rfl (v _) (o_of_v (v _)) (q.bopT_or (ne _ h.1)).pt).snd
    · cases h
  | .ife t a b, X, sc, src, ex, o, h => by
    simp only [chkE] at h
    split at h
    · simp only [Bool.and_eq_true, decide_eq_true_eq, Bool.not_eq_true'] at h
      obtain ⟨⟨h1, h2⟩, h3⟩ := h
      have v := fun pos => pv_ife (pos := pos) (sndE t X sc none _ o h1).v.t (sndE a X sc none _ o h2).v.v (sndE b X sc none _ o h3).v.v
      exact (V3.mk rfl (v _) (o_of_v (v _)) pt_never).snd
    · cases h
  | .idx a i, X, sc, src, ex, o, h => by
    simp only [chkE] at h
    split at h
    · simp only [Bool.and_eq_true, decide_eq_true_eq, Bool.not_eq_true'] at h
      have qi := (sndE i X sc none _ o h.2).v
      exact (V3.ofV rfl rfl (pv_idx (sndE a X sc none _ o h.1).v.o qi.o (ok_ix qi.ok))).snd
    · cases h
  | .slA a lo, X, sc, src, ex, o, h => by
    simp only [chkE] at h
    split at h
    · simp only [Bool.and_eq_true, decide_eq_true_eq, Bool.not_eq_true'] at h
      exact (V3.ofV rfl rfl (pv_slA (sndE a X sc none _ o h.1).v.o (sndE lo X sc none _ o h.2).v.o)).snd
    · cases h
  | .slB a lo, X, sc, src, ex, o, h => by
    simp only [chkE] at h
    split at h
    · simp only [Bool.and_eq_true, decide_eq_true_eq, Bool.not_eq_true'] at h
      exact (V3.ofV rfl rfl (pv_slB (sndE a X sc none _ o h.1).v.o (sndE lo X sc none _ o h.2).v.o)).snd
    · cases h
  | .slAB a lo hi, X, sc, src, ex, o, h => by
    simp only [chkE] at h
    split at h
    · simp only [Bool.and_eq_true, decide_eq_true_eq, Bool.not_eq_true'] at h
      exact (V3.ofV rfl rfl (pv_slAB (sndE a X sc none _ o h.1.1).v.o (sndE lo X sc none _ o h.1.2).v.o (sndE hi X sc none _ o h.2).v.o)).snd
    · cases h
  | .rev a, X, sc, src, ex, o, h => by
    simp only [chkE] at h
    split at h
    · simp only [Bool.and_eq_true, decide_eq_true_eq, Bool.not_eq_true'] at h
      obtain ⟨rfl, h⟩ := h
      exact (V3.ofV rfl rfl (pv_revL (sndE a X sc none _ o h).v.o)).snd
    · cases h
  | .call f es, X, sc, src, ex, o, h => by
    simp only [chkE] at h
    split at h
    · rename_i x p es' pos
      simp only [Bool.and_eq_true, decide_eq_true_eq, Bool.not_eq_true'] at h
      obtain ⟨⟨⟨h1, h2⟩, h3⟩, h4⟩ := h
      split at h1
      · rename_i q hq
        simp only [decide_eq_true_eq] at h1
        subst h1
        have qs := sndEs es X sc _ o h4
        obtain ⟨fa, fd, ps, G, hm, hk, hb, _⟩ := o.fns _ _ hq
        have hl := o.len _ _ hq
        cases es' with
        | nil =>
          cases es with
          | nil => exact (V3.ofV rfl rfl (pv_call0 G o.room o.gd (gl_iff o h2) hm hk hb hl h3)).snd
          | cons _ _ => exact qs.elim
        | cons e1 r =>
          cases es with
          | nil => exact qs.elim
          | cons e2 r2 => exact (V3.ofV rfl rfl (pv_call G o.room o.gd (gl_iff o h2) hm hk hb hl qs.as h3 (ok_star qs.1.ok) (AllV.nostar qs.2))).snd
      · cases h1
    · cases h
  | .callk f kn ks, X, sc, src, ex, o, h => by
    simp only [chkE] at h
    split at h
    · simp only [Bool.and_eq_true, decide_eq_true_eq, Bool.not_eq_true'] at h
      obtain ⟨⟨⟨⟨⟨h1, hkf⟩, hkn⟩, h2⟩, h3⟩, h4⟩ := h
      split at h1
      · rename_i q hq
        simp only [decide_eq_true_eq] at h1
        subst h1
        have qs := sndEs ks X sc _ o h4
        obtain ⟨fa, fd, ps, G, hm, hk, hb, hkw⟩ := o.fns _ _ hq
        have hl := o.len _ _ hq
        cases hz : T.kws[kn]? with
        | none => rw [hz] at hkf; cases hkf
        | some z =>
          obtain ⟨z1, z2⟩ := z
          rw [hz] at hkf hkn
          simp only [Option.map_some, Option.some.injEq] at hkf hkn
          subst hkf
          obtain ⟨pm, hp1, hp2⟩ := hkw kn z2 hz
          refine (V3.ofV rfl rfl (pv_callK (o := C.kw[kn]?) (ks := z2) (fun q e => by rw [hp1] at e; cases e; rfl) G o.room o.gd (gl_iff o h2) hm hk hp2 hl (fun ρ k xs k' e => ?_) (AllV.kw qs) ?_ ?_ h3 ?_)).snd
          · rw [argsL_len _ _ _ _ _ e, qs.len, List.length_map]
            exact kw_len hkn
          · exact (kw_names hkn).1
          · exact (kw_names hkn).2.1
          · rw [(kw_names hkn).2.2]; rfl
      · cases h1
    · cases h
  | .blt b es, X, sc, src, ex, o, h => by
    simp only [chkE] at h
    split at h
    · simp only [Bool.and_eq_true, decide_eq_true_eq, Bool.not_eq_true'] at h
      obtain ⟨⟨⟨h1, h2⟩, h3⟩, h4⟩ := h
      subst h1
      have qs := sndEs es X sc _ o h4
      have g := frB_iff o h2
      rename_i es' _
      cases es' with
      | nil => cases h3
      | cons e1 r =>
        cases es with
        | nil => exact qs.elim
        | cons e2 r2 => exact (V3.ofV rfl rfl (pv_blt o.calm o.sys o.gd o.un g.1 g.2 qs.os (ok_star qs.1.ok) (AllV.nostar qs.2))).snd
    · cases h
  | .isi a ts, X, sc, src, ex, o, h => by
    simp only [chkE] at h
    split at h
    · simp only [Bool.and_eq_true, decide_eq_true_eq, Bool.not_eq_true'] at h
      obtain ⟨⟨⟨⟨rfl, h2⟩, h3⟩, h4⟩, h5⟩ := h
      have g := frB_iff o h2
      have g2 := frB_iff o h4
      split at h3
      · simp only [decide_eq_true_eq] at h3
        subst h3
        have qa := (sndE a X sc none _ o h5).v
        have v := fun p p' pos => po_isi (F := F) (p := p) (p' := p') (pos := pos) qa.o g.1 g.2 g2.1 g2.2 (ok_star qa.ok) (ok_star rfl) rfl
        exact (V3.ofB rfl (v _ _ _) (t_of_b rfl rfl (v _ _ _))).snd
      · cases h3
    · cases h
  | .comp elt tg src', X, sc, src, ex, o, h => by
    simp only [chkE] at h
    split at h
    · simp only [Bool.and_eq_true, decide_eq_true_eq, Bool.not_eq_true'] at h
      obtain ⟨⟨⟨h1, h2⟩, h3⟩, h4⟩ := h
      have qs := sndE src' X sc _ _ o h1
      have hf : ∀ s H scope D cl fp, (blkX X s H scope D cl fp).fn = fnC scope := fun _ _ _ _ _ _ => rfl
      refine (V3.ofV rfl rfl (pv_comp o.calm (by rw [o.hN]; exact o.nd) qs.i (by rw [o.hN, o.hsc]; exact blkOk_by h2) (own_slots h3) (fun s H D cl fp => ?_) (fun s H D cl fp => ?_) (fun s H D cl fp => ?_) (ok_fs qs.1))).snd
      · have ob := o.blk s H (by assumption) D cl fp
        refine pg_tg ob.calm (by rw [ob.hN]; exact o.nd) ob.hsc ?_
        rw [ob.hN]
        exact h3
      · exact (pts_yes (F := F))
      · exact (sndE elt _ _ none _ (o.blk s H _ D cl fp) h4).v.v
    · cases h
  | .compIf elt tg src' c, X, sc, src, ex, o, h => by
    simp only [chkE] at h
    split at h
    · simp only [Bool.and_eq_true, decide_eq_true_eq, Bool.not_eq_true'] at h
      obtain ⟨⟨⟨⟨h1, h2⟩, h3⟩, h4⟩, h5⟩ := h
      have qs := sndE src' X sc _ _ o h1
      refine (V3.ofV rfl rfl (pv_comp o.calm (by rw [o.hN]; exact o.nd) qs.i (by rw [o.hN, o.hsc]; exact blkOk_by h2) (own_slots h3) (fun s H D cl fp => ?_) (fun s H D cl fp => ?_) (fun s H D cl fp => ?_) (ok_fs qs.1))).snd
      · have ob := o.blk s H (by assumption) D cl fp
        refine pg_tg ob.calm (by rw [ob.hN]; exact o.nd) ob.hsc ?_
        rw [ob.hN]
        exact h3
      · exact pts_one (sndE c _ _ none _ (o.blk s H _ D cl fp) h5).v.t
      · exact (sndE elt _ _ none _ (o.blk s H _ D cl fp) h4).v.v
    · cases h
  | .dict0, X, sc, src, ex, o, h => by
    simp only [chkE] at h
    split at h
    · exact (V3.ofV rfl rfl pv_dict0).snd
    · cases h
  | .dict1 a b, X, sc, src, ex, o, h => by
    simp only [chkE] at h
    split at h
    · simp only [Bool.and_eq_true, decide_eq_true_eq, Bool.not_eq_true'] at h
      exact (V3.ofV rfl rfl (pv_dict1 (sndE a X sc none _ o h.1).v.o (sndE b X sc none _ o h.2).v.v)).snd
    · cases h
  | .rng1 a, X, sc, src, ex, o, h => by
    simp only [chkE] at h
    split at h
    · simp only [Bool.and_eq_true, decide_eq_true_eq, Bool.not_eq_true'] at h
      obtain ⟨⟨⟨h1, rfl⟩, h2⟩, h3⟩ := h
      have g := frB_iff o h2
      have qa := (sndE a X sc none _ o h3).v
      exact ⟨rfl, ⟨fun z => (by subst z; cases h1), fun _ _ tge _ => pi_rng1 (m := evA C (.rng1 a)) rfl qa.o g.1 g.2 (ok_star qa.ok) (ok_star qa.ok)⟩⟩
    · cases h
  | .rng2 a b, X, sc, src, ex, o, h => by
    simp only [chkE] at h
    split at h
    · simp only [Bool.and_eq_true, decide_eq_true_eq, Bool.not_eq_true'] at h
      obtain ⟨⟨⟨⟨h1, rfl⟩, h2⟩, h3⟩, h4⟩ := h
      have g := frB_iff o h2
      have qa := (sndE a X sc none _ o h3).v
      have qb := (sndE b X sc none _ o h4).v
      have e1 : starEach [_] X.env = _ := ok_star (X := X) (es := []) qb.ok
      exact ⟨rfl, ⟨fun z => (by subst z; cases h1), fun _ _ tge _ => pi_rng2 (m := evA C (.rng2 a b)) rfl qa.o qb.o g.1 g.2 (by rw [ok_star (X := X) qa.ok, e1]; rfl) e1 (ok_star qa.ok) (ok_star qb.ok)⟩⟩
    · cases h
  | .zip false a b, X, sc, src, ex, o, h => by
    simp only [chkE] at h
    split at h
    · simp only [Bool.and_eq_true, decide_eq_true_eq] at h
      obtain ⟨⟨⟨⟨rfl, rfl⟩, h2⟩, h3⟩, h4⟩ := h
      have g := frB_iff o h2
      have qa := (sndE a X sc none _ o h3).v
      have qb := (sndE b X sc none _ o h4).v
      have al : AllV X F [_, _] [evA C a, evA C b] := ⟨qa, qb, trivial⟩
      refine ⟨rfl, ⟨fun z => (by cases z), fun tp e tge ht => ?_⟩⟩
      cases e
      cases tge with
      | Tuple es kk pp => exact pi_zipD (m := evA C (.zip false a b)) rfl g.1 g.2 al.ds (ok_star qa.ok) (AllV.nostar (ms := [evA C b]) ⟨qb, trivial⟩)
      | _ => cases ht
    · cases h
  | .zip true a b, X, sc, src, ex, o, h => by
    simp only [chkE] at h
    split at h
    · simp only [Bool.and_eq_true, decide_eq_true_eq] at h
      obtain ⟨⟨⟨⟨⟨⟨rfl, rfl⟩, rfl⟩, rfl⟩, h2⟩, h3⟩, h4⟩ := h
      have g := frB_iff o h2
      have qa := (sndE a X sc none _ o h3).v
      have qb := (sndE b X sc none _ o h4).v
      have al : AllV X F [_, _] [evA C a, evA C b] := ⟨qa, qb, trivial⟩
      refine ⟨rfl, ⟨fun z => (by cases z), fun tp e tge ht => ?_⟩⟩
      cases e
      cases tge with
      | Tuple es kk pp => exact pi_zipS (m := evA C (.zip true a b)) rfl g.1 g.2 al.ds (ok_star qa.ok) (AllV.nostar (ms := [evA C b]) ⟨qb, trivial⟩)
      | _ => cases ht
    · cases h
  | .enum _, X, sc, src, ex, o, h => by simp [chkE] at h
  | .join a b, X, sc, src, ex, o, h => by
    simp only [chkE] at h
    split at h
    · simp only [Bool.and_eq_true, decide_eq_true_eq, Bool.not_eq_true'] at h
      obtain ⟨⟨⟨⟨rfl, h1⟩, h2⟩, h3⟩, h4⟩ := h
      have qb := (sndE b X sc none _ o h4).v
      exact (V3.ofV rfl rfl (pv_join (sndE a X sc none _ o h3).v.o qb.o (ok_star qb.ok) (ok_base h1) (by rw [h2]; simp))).snd
    · cases h
  | .split a b, X, sc, src, ex, o, h => by
    simp only [chkE] at h
    split at h
    · simp only [Bool.and_eq_true, decide_eq_true_eq, Bool.not_eq_true'] at h
      obtain ⟨⟨⟨⟨rfl, h1⟩, h2⟩, h3⟩, h4⟩ := h
      have qb := (sndE b X sc none _ o h4).v
      exact (V3.ofV rfl rfl (pv_split (sndE a X sc none _ o h3).v.o qb.o (ok_star qb.ok) (ok_base h1) (by rw [h2]; simp))).snd
    · cases h
  | .dkTot i, X, sc, src, ex, o, h => by
    simp only [chkE] at h
    split at h
    · simp only [Bool.and_eq_true, decide_eq_true_eq, Bool.not_eq_true'] at h
      obtain ⟨⟨⟨⟨rfl, h1⟩, h2⟩, h3⟩, h4⟩ := h
      exact (V3.ofV rfl rfl (pv_dkTot (var_ok o h1 h2 h3 h4) (ok_ix rfl))).snd
    · cases h
  | .dkCnt i, X, sc, src, ex, o, h => by
    simp only [chkE] at h
    split at h
    · simp only [Bool.and_eq_true, decide_eq_true_eq, Bool.not_eq_true'] at h
      obtain ⟨⟨⟨⟨rfl, h1⟩, h2⟩, h3⟩, h4⟩ := h
      exact (V3.ofV rfl rfl (pv_dkCnt (var_ok o h1 h2 h3 h4) (ok_ix rfl))).snd
    · cases h
  | .dkNE i, X, sc, src, ex, o, h => by
    simp only [chkE] at h
    split at h
    · simp only [Bool.and_eq_true, decide_eq_true_eq, Bool.not_eq_true'] at h
      obtain ⟨⟨⟨⟨rfl, h1⟩, h2⟩, h3⟩, h4⟩ := h
      have hu := o.un
      exact (V3.ofB rfl (po_dkNE (by omega) (var_ok o h1 h2 h3 h4) (ok_ix rfl)) (pt_dkNE (by omega) (var_ok o h1 h2 h3 h4) (ok_ix rfl))).snd
    · cases h
  | .dkPop i, X, sc, src, ex, o, h => by
    simp only [chkE] at h
    split at h
    · simp only [Bool.and_eq_true, decide_eq_true_eq, Bool.not_eq_true'] at h
      obtain ⟨⟨⟨⟨⟨⟨rfl, rfl⟩, hl⟩, h1⟩, h2⟩, h3⟩, h4⟩ := h
      exact (V3.ofV rfl rfl (pv_dkPop (var_ok o h1 h2 h3 h4) (ok_ix rfl) (ok_base rfl) (by rw [hl]; simp))).snd
    · cases h
theorem sndEs : ∀ (es : Es) (X : Cx) (sc : Scope) (exs : List Expr), Okx T C N n X sc → chkEs T N es sc exs = true → AllV X F exs (evAs C es)
  | .nil, X, sc, exs, o, h => by
    cases exs with
    | nil => trivial
    | cons _ _ => simp [chkEs] at h
  | .cons e es, X, sc, exs, o, h => by
    cases exs with
    | nil => simp [chkEs] at h
    | cons e' r =>
      simp only [chkEs, Bool.and_eq_true] at h
      exact ⟨(sndE e X sc none _ o h.1).v, sndEs es X sc r o h.2⟩
end
end TA

set_option maxHeartbeats 8000000
/-! The check of statements, and that it is sound. -/
namespace TA
open PySem PySem.Spec PyProof.Rows L2
variable {T : Tab} {C : Ctx} {N : List Str} {n : Nat} {F : Fm}

def swapB (sc : Scope) (e : Expr) (x : Str) (p : Pos) : Bool := match e with
  | .ListComp _ _ s q => lclB sc x && p.line == q.line && !(s.names.any fun (n, k) => n == x && (k == .local || k == .cell))
  | _ => false
/-- two names stored in one go: the last first? -/
def par2S (sc : Scope) (x y : Str) (px py : Pos) (a b : Expr) : Bool :=
  lclB sc x && lclB sc y && decide (px.line = py.line) && !(x == y) && !([a, b].all (foldedForSure 8)) && !([a, b].all (constantsAlone 8))
def par2N (sc : Scope) (x y : Str) : Bool := !lclB sc x || !lclB sc y
def notTup : Expr → Bool
  | .Tuple .. => false
  | .List .. => false
  | _ => true
def onlyVal : Expr → Bool
  | .Tuple .. => false
  | _ => true
theorem sws_none {t : Expr} {e : Expr} {env : PySem.Env} (h : onlyVal e = true) : swappedStores [t] e env = pure none := by
  cases e <;> first | (cases t <;> rfl) | cases h
theorem sws_sub {o i : Expr} {p : Pos} {e : Expr} {env : PySem.Env} : swappedStores [.Subscript o i p] e env = pure none := by
  cases e <;> rfl
def isStar : Expr → Bool
  | .Starred .. => true
  | _ => false
theorem starB {a : Expr} (h : okE a = true) : isStar a = false := by
  cases a <;> first | rfl | cases h
def swNames (sc : Scope) (x y : Str) (px py : Pos) : List Str := [Expr.Name x px, Expr.Name y py].filterMap fun
    | .Name id pos => if sc.names.lookup id == some .local && pos.line == px.line then some id else none
    | _ => none
theorem sws_eq {x y : Str} {px py pt pt2 : Pos} {kt k2 : Nat} {a b : Expr} {env : PySem.Env} : swappedStores [.Tuple [.Name x px, .Name y py] kt pt] (.Tuple [a, b] k2 pt2) env =
    (if env.blockKind != .function then pure none else if isStar a || (isStar b || false) then pure none else
      if (swNames env.scope x y px py).length != 2 || (swNames env.scope x y px py).eraseDups.length != (swNames env.scope x y px py).length then pure none else
      if [a, b].all (foldedForSure 8) then pure none else if [a, b].all (constantsAlone 8) then (do
        unsupported "assign.tuple-of-constant-expressions:order-of-the-stores"
        pure (some (swNames env.scope x y px py))) else pure (some (swNames env.scope x y px py))) := rfl
theorem sws_two {x y : Str} {px py pt pt2 : Pos} {kt k2 : Nat} {a b : Expr} {env : PySem.Env} (hk : env.scope.kind = .function) (ha : okE a = true) (hb : okE b = true) (h : par2S env.scope x y px py a b = true) :
    swappedStores [.Tuple [.Name x px, .Name y py] kt pt] (.Tuple [a, b] k2 pt2) env = pure (some [x, y]) := by
  simp only [par2S, Bool.and_eq_true, decide_eq_true_eq, Bool.not_eq_true'] at h
  obtain ⟨⟨⟨⟨⟨h1, h2⟩, h3⟩, h4⟩, h5⟩, h6⟩ := h
  have l1 := lclB_iff h1
  have l2 := lclB_iff h2
  have bk : env.blockKind = .function := by unfold Env.blockKind; rw [hk]; rfl
  have s1 := starB ha
  have s2 := starB hb
  have e0 : (x == y) = false := h4
  have n1 : ([x, y] : List Str).eraseDups = [x, y] := by
    have e1 : (y == x) = false := by rw [beq_eq_false_iff_ne] at e0 ⊢; exact fun z => e0 z.symm
    simp [List.eraseDups_cons, e1]
  have nm : swNames env.scope x y px py = [x, y] := by
    simp [swNames, l1, l2, h3]
  rw [sws_eq, nm, n1, s1, s2, bk, h5, h6]
  rfl
theorem lcl_ne {sc : Scope} {x : Str} (h : lclB sc x = false) : (sc.names.lookup x == some .local) = false := by
  unfold lclB at h
  split at h
  · cases h
  · rename_i q
    cases hz : sc.names.lookup x with
    | none => rfl
    | some z =>
      cases z <;> first | rfl | exact absurd hz q
theorem sws_twoN {x y : Str} {px py pt pt2 : Pos} {kt k2 : Nat} {a b : Expr} {env : PySem.Env} (ha : okE a = true) (hb : okE b = true) (h : par2N env.scope x y = true) :
    swappedStores [.Tuple [.Name x px, .Name y py] kt pt] (.Tuple [a, b] k2 pt2) env = pure none := by
  have s1 := starB ha
  have s2 := starB hb
  have nl : ((swNames env.scope x y px py).length != 2) = true := by
    simp only [par2N, Bool.or_eq_true, Bool.not_eq_true'] at h
    unfold swNames
    rw [List.filterMap_cons, List.filterMap_cons, List.filterMap_nil]
    rcases h with h | h
    · simp only [lcl_ne h, Bool.false_and]
      by_cases q : (env.scope.names.lookup y == some .local && py.line == px.line) = true
      · simp [q]
      · simp [q]
    · simp only [lcl_ne h, Bool.false_and]
      by_cases q : env.scope.names.lookup x = some .local
      · simp [q]
      · simp [q]
  rw [sws_eq, s1, s2]
  split
  · rfl
  · rw [if_neg (by decide), if_pos (by rw [nl]; rfl)]

mutual
def chkS (T : Tab) (N : List Str) : S → Scope → Stmt → Bool
  | .set i e => fun sc st => match st with
    | .Assign [.Name x _] ex _ => nameOk N sc (fun _ => true) i x && (noComp ex || !lclB sc x) && chkE T N e sc none ex
    | _ => false
  | .setLc i e => fun sc st => match st with
    | .Assign [.Name x p] ex _ => (match e, ex with
      | .comp elt tg src, .ListComp elt' [⟨tge, iter, [], 0⟩] scope q =>
        decide (N[i]? = some x) && lclB sc x && swapB sc (.ListComp elt' [⟨tge, iter, [], 0⟩] scope q) x p && chkE T N src sc (some (isTup tge)) iter && blkC N sc scope (ownOf tg tge) && tgOk N (relS scope sc) (fnC scope) tg tge && chkE T N elt (relS scope sc) none elt'
      | .compIf elt tg src c, .ListComp elt' [⟨tge, iter, [c'], 0⟩] scope q =>
        decide (N[i]? = some x) && lclB sc x && swapB sc (.ListComp elt' [⟨tge, iter, [c'], 0⟩] scope q) x p && chkE T N src sc (some (isTup tge)) iter && blkC N sc scope (ownOf tg tge) && tgOk N (relS scope sc) (fnC scope) tg tge && chkE T N elt (relS scope sc) none elt' && chkE T N c (relS scope sc) none c'
      | _, _ => false)
    | _ => false
  | .par is es => fun sc st => match st with
    | .Assign [.Tuple [.Name x px, .Name y py] _ _] (.Tuple [a', b'] _ _) _ => (match is, es with
      | [i, j], .cons a (.cons b .nil) => decide (i ≠ j) && nameOk N sc (fun _ => true) i x && nameOk N sc (fun _ => true) j y && (par2S sc x y px py a' b' || par2N sc x y) && chkE T N a sc none a' && chkE T N b sc none b'
      | _, _ => false)
    | _ => false
  | .unp is e => fun sc st => match st with
    | .Assign [.Tuple ts k p] ex _ => namesOk N sc (fun _ => true) is ts && onlyVal ex && noComp ex && chkE T N e sc none ex
    | _ => false
  | .aug i op e => fun sc st => match st with
    | .AugAssign (.Name x _) op' ex _ => decide (op = op') && decide (op ≠ .Pow) && nameOk N sc (fun _ => true) i x && chkE T N e sc none ex
    | _ => false
  | .ite t a b => fun sc st => match st with
    | .If t' a' b' _ => chkE T N t sc none t' && chkSs T N a sc a' && chkSs T N b sc b'
    | _ => false
  | .loop tg src b => fun sc st => match st with
    | .For tge iter body [] _ => chkE T N src sc (some (isTup tge)) iter && tgOk N sc (fun _ => true) tg tge && chkSs T N b sc body
    | _ => false
  | .whil t b => fun sc st => match st with
    | .While t' body [] _ => chkE T N t sc none t' && chkSs T N b sc body
    | _ => false
  | .ret e => fun sc st => match st with
    | .Return (some ex) _ => chkE T N e sc none ex
    | _ => false
  | .retN => fun sc st => match st with
    | .Return none _ => true
    | _ => false
  | .retDk a b c => fun sc st => match st with
    | .Return (some (.List [a', b', c'] _)) _ => chkE T N a sc none a' && chkE T N b sc none b' && chkE T N c sc none c'
    | _ => false
  | .app i e => fun sc st => match st with
    | .Expr (.Call (.Attribute (.Name x p0) m ap) [ex] [] p) _ => decide (m = "append") && decide (ap.endLine = p.line) && chkE T N (.var i) sc none (.Name x p0) && chkE T N e sc none ex
    | _ => false
  | .popAt j i e => fun sc st => match st with
    | .Assign [.Name y _] (.Call (.Attribute (.Name x p0) m ap) [ex] [] p) _ => decide (m = "pop") && decide (ap.endLine = p.line) && nameOk N sc (fun _ => true) j y && chkE T N (.var i) sc none (.Name x p0) && chkE T N e sc none ex
    | _ => false
  | .frz _ => fun _ _ => false
  | .dkSet i e => fun sc st => match st with
    | .Assign [.Subscript (.Name x p0) (.Constant (.int q) _ _) _] ex _ => decide (q = 2) && noComp ex && chkE T N (.var i) sc none (.Name x p0) && chkE T N e sc none ex
    | _ => false
  | .dkPush i e => fun sc st => match st with
    | .Expr (.Call (.Attribute (.Subscript (.Name x p0) (.Constant (.int q) _ _) _) m ap) [ex] [] p) _ => decide (q = 0) && decide (m = "append") && decide (ap.endLine = p.line) && chkE T N (.var i) sc none (.Name x p0) && chkE T N e sc none ex
    | _ => false
  | .brk => fun _ st => match st with
    | .Break _ => true
    | _ => false
  | .cont => fun _ st => match st with
    | .Continue _ => true
    | _ => false
def chkSs (T : Tab) (N : List Str) : Ss → Scope → List Stmt → Bool
  | .nil => fun _ sts => sts.isEmpty
  | .cons s ss => fun sc sts => match s with
    | .frz _ => chkSs T N ss sc sts
    | s => match sts with
      | [] => false
      | st :: r => chkS T N s sc st && chkSs T N ss sc r
end
/-- a def's body: every name's cell is its own -/
structure Oks (T : Tab) (C : Ctx) (N : List Str) (n : Nat) (X : Cx) (sc : Scope) : Prop extends Okx T C N n X sc where
  fn : X.fn = fun _ => true
  kind : sc.kind = .function
end TA

set_option maxHeartbeats 8000000
/-! The check of statements is sound. -/
namespace TA
open PySem PySem.Spec PyProof.Rows L2
variable {T : Tab} {C : Ctx} {N : List Str} {n : Nat} {F : Fm}

theorem swap_yes {env : PySem.Env} {sc : Scope} {elt : Expr} {gs : List Comprehension} {s : Scope} {q p : Pos} {x : Str} {l : Nat} (hs : env.scope = sc) (hk : sc.kind = .function) (h : swapB sc (.ListComp elt gs s q) x p = true) :
    swapsWith (.ListComp elt gs s q) (some (.Name x p)) l env = pure true := by
  subst hs
  simp only [swapB, Bool.and_eq_true] at h
  have bk : env.blockKind = .function := by unfold Env.blockKind; rw [hk]; rfl
  show (pure (env.blockKind == .function && env.kindOf x == some .local && p.line == q.line && !(s.names.any fun (n, k) => n == x && (k == .local || k == .cell))) : Sem Bool) = pure true
  rw [bk, show env.kindOf x = some .local from lclB_iff h.1.1, h.1.2, h.2]
  rfl
theorem swap_no {ex : Expr} {x : Str} {p : Pos} {n : Nat} {env : PySem.Env} {sc : Scope} (hs : env.scope = sc) (h : (noComp ex || !lclB sc x) = true) : swapsWith ex (some (.Name x p)) n env = pure false := by
  rw [Bool.or_eq_true] at h
  rcases h with h | h
  · exact ok_swap h
  · subst hs
    have z : (env.kindOf x == some .local) = false := lcl_ne (by simpa using h)
    cases ex with
    | ListComp a b s q =>
      show (pure (env.blockKind == .function && env.kindOf x == some .local && p.line == q.line && !(s.names.any fun (n, k) => n == x && (k == .local || k == .cell))) : Sem Bool) = pure false
      rw [z, Bool.and_false]; rfl
    | SetComp a b s q =>
      show (pure (env.blockKind == .function && env.kindOf x == some .local && p.line == q.line && !(s.names.any fun (n, k) => n == x && (k == .local || k == .cell))) : Sem Bool) = pure false
      rw [z, Bool.and_false]; rfl
    | DictComp a a2 b s q =>
      show (pure (env.blockKind == .function && env.kindOf x == some .local && p.line == q.line && !(s.names.any fun (n, k) => n == x && (k == .local || k == .cell))) : Sem Bool) = pure false
      rw [z, Bool.and_false]; rfl
    | _ => rfl
theorem ok_sole {t e : Expr} {n : Nat} {env : PySem.Env} (h : noComp e = true) : swapsWithSole [t] e n env = pure false := ok_swap h
theorem nameOk_iff {X : Cx} {sc : Scope} {i : Nat} {x : Str} (o : Oks T C N n X sc) (h : nameOk N sc (fun _ => true) i x = true) : X.N[i]? = some x ∧ Loc X.env.scope x ∧ (X.fn x = true ∨ X.env.scope.names.lookup x = some .local) := by
  simp only [nameOk, Bool.and_eq_true, decide_eq_true_eq] at h
  rw [o.hN, o.hsc, o.fn]
  exact ⟨h.1.1, locB_iff h.1.2, .inl rfl⟩
theorem Oks.ndX {X : Cx} {sc : Scope} (o : Oks T C N n X sc) : X.N.Nodup := by rw [o.hN]; exact o.nd
theorem tv_of {X : Cx} {sc : Scope} {i : Nat} {x : Str} {p : Pos} (o : Okx T C N n X sc) (h : chkE T N (.var i) sc none (.Name x p) = true) : PE X (.Name x p) (tVar i) := by
  simp only [chkE, Bool.and_eq_true, decide_eq_true_eq, Bool.not_eq_true'] at h
  exact var_ok o h.1.1.1 h.1.1.2 h.1.2 h.2
theorem few1 {X : Cx} {e : Expr} {p : Pos} (h : okE e = true) : ((backTo p (starEach [e] X.env)).all (fun x => !x.1) && (backToKw p (keywordEach [] X.env)).all (fun x => x.1.isSome) && decide ([e].length + ([] : List Keyword).length + (if ([] : List Keyword).isEmpty then 0 else 1) < 30)) = true := by
  rw [show starEach [e] X.env = (false, eval e X.env) :: starEach [] X.env from ok_star h]
  rfl
mutual
theorem sndS : ∀ (s : S) (X : Cx) (sc : Scope) (st : Stmt), Oks T C N n X sc → chkS T N s sc st = true → PS X st (tS X.K F (evS C s))
  | .set i e, X, sc, st, o, h => by
    simp only [chkS] at h
    split at h
    · simp only [Bool.and_eq_true] at h
      obtain ⟨a, b, c⟩ := nameOk_iff o h.1.1
      exact pS_set o.ndX a b (sndE e X sc none _ o.toOkx h.2).v.v (swap_no o.hsc h.1.2) c
    · cases h
  | .setLc i e, X, sc, st, o, h => by
    simp only [chkS] at h
    split at h
    · split at h
      · simp only [Bool.and_eq_true, decide_eq_true_eq] at h
        obtain ⟨⟨⟨⟨⟨⟨h1, h2⟩, h3⟩, h4⟩, h5⟩, h6⟩, h7⟩ := h
        have qs := sndE (F := F) _ X sc _ _ o.toOkx h4
        refine pS_setLc o.calm o.ndX (by rw [o.hN]; exact h1) (by rw [o.hsc]; exact lclB_iff h2) (swap_yes o.hsc o.kind h3) qs.i (by rw [o.hN, o.hsc]; exact blkOk_by h5) (own_slots h6) (fun s H D cl fp => ?_) (fun s H D cl fp => pts_yes) (fun s H D cl fp => (sndE _ _ _ none _ (o.toOkx.blk s H _ D cl fp) h7).v.v) (ok_fs qs.1)
        have ob := o.toOkx.blk s H (by assumption) D cl fp
        refine pg_tg ob.calm (by rw [ob.hN]; exact o.nd) ob.hsc ?_
        rw [ob.hN]
        exact h6
      · simp only [Bool.and_eq_true, decide_eq_true_eq] at h
        obtain ⟨⟨⟨⟨⟨⟨⟨h1, h2⟩, h3⟩, h4⟩, h5⟩, h6⟩, h7⟩, h8⟩ := h
        have qs := sndE (F := F) _ X sc _ _ o.toOkx h4
        refine pS_setLc o.calm o.ndX (by rw [o.hN]; exact h1) (by rw [o.hsc]; exact lclB_iff h2) (swap_yes o.hsc o.kind h3) qs.i (by rw [o.hN, o.hsc]; exact blkOk_by h5) (own_slots h6) (fun s H D cl fp => ?_) (fun s H D cl fp => pts_one (sndE _ _ _ none _ (o.toOkx.blk s H _ D cl fp) h8).v.t) (fun s H D cl fp => (sndE _ _ _ none _ (o.toOkx.blk s H _ D cl fp) h7).v.v) (ok_fs qs.1)
        have ob := o.toOkx.blk s H (by assumption) D cl fp
        refine pg_tg ob.calm (by rw [ob.hN]; exact o.nd) ob.hsc ?_
        rw [ob.hN]
        exact h6
      · cases h
    · cases h
  | .par is es, X, sc, st, o, h => by
    simp only [chkS] at h
    split at h
    · split at h
      · simp only [Bool.and_eq_true, decide_eq_true_eq, Bool.or_eq_true] at h
        obtain ⟨⟨⟨⟨⟨h1, h2⟩, h3⟩, h4⟩, h5⟩, h6⟩ := h
        have qa := (sndE (F := F) _ X sc none _ o.toOkx h5).v
        have qb := (sndE (F := F) _ X sc none _ o.toOkx h6).v
        rcases h4 with h4 | h4
        · have l := h4
          simp only [par2S, Bool.and_eq_true] at l
          exact pS_par2 o.calm o.ndX (nameOk_iff o h2).1 (nameOk_iff o h3).1 h1 (by rw [o.hsc]; exact lclB_iff l.1.1.1.1.1) (by rw [o.hsc]; exact lclB_iff l.1.1.1.1.2) qa.v qb.v (ok_star qa.ok) (ok_star qb.ok)
            (sws_two (by rw [o.hsc]; exact o.kind) qa.ok qb.ok (by rw [o.hsc]; exact h4)) (ok_sole rfl)
        · refine pS_par2N h1 (pg_tg (sc := sc) o.calm o.ndX o.hsc ?_) qa.v qb.v (ok_star qa.ok) (ok_star qb.ok) (ok_sole rfl) (sws_twoN qa.ok qb.ok (by rw [o.hsc]; exact h4)) rfl
          rw [o.hN, o.fn]
          simp only [tgOk, namesOk, h2, h3]
          rfl
      · cases h
    · cases h
  | .unp is e, X, sc, st, o, h => by
    simp only [chkS] at h
    split at h
    · simp only [Bool.and_eq_true] at h
      obtain ⟨⟨⟨h1, h2⟩, h3⟩, h4⟩ := h
      refine pS_unp (sndE e X sc none _ o.toOkx h4).v.v (pg_tg (sc := sc) o.calm o.ndX o.hsc ?_) (ok_sole h3) (sws_none h2) rfl
      rw [o.hN, o.fn]
      exact h1
    · cases h
  | .aug i op e, X, sc, st, o, h => by
    simp only [chkS] at h
    split at h
    · simp only [Bool.and_eq_true, decide_eq_true_eq] at h
      obtain ⟨⟨⟨rfl, h1⟩, h2⟩, h3⟩ := h
      obtain ⟨a, b, c⟩ := nameOk_iff o h2
      exact pS_aug h1 o.ndX a b (sndE e X sc none _ o.toOkx h3).v.o c
    · cases h
  | .ite t a b, X, sc, st, o, h => by
    simp only [chkS] at h
    split at h
    · simp only [Bool.and_eq_true] at h
      exact pS_ite (sndE t X sc none _ o.toOkx h.1.1).v.t (sndSs a X sc _ o h.1.2) (sndSs b X sc _ o h.2)
    · cases h
  | .loop tg src b, X, sc, st, o, h => by
    simp only [chkS] at h
    split at h
    · simp only [Bool.and_eq_true] at h
      have qs := sndE (F := F) src X sc _ _ o.toOkx h.1.1
      exact pS_for o.pas o.calm qs.i (pg_tg (sc := sc) o.calm o.ndX o.hsc (by rw [o.hN, o.fn]; exact h.1.2)) (sndSs b X sc _ o h.2) (ok_fs qs.1)
    · cases h
  | .whil t b, X, sc, st, o, h => by
    simp only [chkS] at h
    split at h
    · simp only [Bool.and_eq_true] at h
      exact pS_while o.pas (sndE t X sc none _ o.toOkx h.1).v.t (sndSs b X sc _ o h.2)
    · cases h
  | .ret e, X, sc, st, o, h => by
    simp only [chkS] at h
    split at h
    · have q := (sndE (F := F) e X sc none _ o.toOkx h).v
      cases e with
      | var i =>
        simp only [chkE] at h
        split at h
        · simp only [Bool.and_eq_true, decide_eq_true_eq, Bool.not_eq_true'] at h
          exact pS_retV (var_ok o.toOkx h.1.1.1 h.1.1.2 h.1.2 h.2)
        · cases h
      | _ => exact pS_ret q.v
    · cases h
  | .retN, X, sc, st, o, h => by
    simp only [chkS] at h
    split at h
    · exact pS_retN
    · cases h
  | .retDk a b c, X, sc, st, o, h => by
    simp only [chkS] at h
    split at h
    · simp only [Bool.and_eq_true] at h
      have qa := (sndE (F := F) a X sc none _ o.toOkx h.1.1).v
      have qb := (sndE (F := F) b X sc none _ o.toOkx h.1.2).v
      have qc := (sndE (F := F) c X sc none _ o.toOkx h.2).v
      exact pS_retDk qa.v qb.v qc.v (ok_star qa.ok) (ok_star qb.ok) (ok_star qc.ok)
    · cases h
  | .app i e, X, sc, st, o, h => by
    simp only [chkS] at h
    split at h
    · simp only [Bool.and_eq_true, decide_eq_true_eq] at h
      obtain ⟨⟨⟨rfl, h1⟩, h2⟩, h3⟩ := h
      have q := (sndE (F := F) e X sc none _ o.toOkx h3).v
      exact pS_app (tv_of o.toOkx h2) q.v (ok_star q.ok) (ok_base rfl) (by rw [h1]; simp) (few1 q.ok) rfl
    · cases h
  | .popAt j i e, X, sc, st, o, h => by
    simp only [chkS] at h
    split at h
    · simp only [Bool.and_eq_true, decide_eq_true_eq] at h
      obtain ⟨⟨⟨⟨rfl, h1⟩, h0⟩, h2⟩, h3⟩ := h
      have q := (sndE (F := F) e X sc none _ o.toOkx h3).v
      obtain ⟨a, b, c⟩ := nameOk_iff o h0
      exact pS_popAt o.ndX a b c (tv_of o.toOkx h2) q.o (ok_star q.ok) (ok_base rfl) (by rw [h1]; simp) (few1 q.ok) rfl
    · cases h
  | .frz _, X, sc, st, o, h => by simp [chkS] at h
  | .dkSet i e, X, sc, st, o, h => by
    simp only [chkS] at h
    split at h
    · simp only [Bool.and_eq_true, decide_eq_true_eq] at h
      obtain ⟨⟨⟨rfl, h1⟩, h2⟩, h3⟩ := h
      have q := (sndE (F := F) e X sc none _ o.toOkx h3).v
      exact pS_dkSet (tv_of o.toOkx h2) q.o (ok_sole h1) sws_sub
    · cases h
  | .dkPush i e, X, sc, st, o, h => by
    simp only [chkS] at h
    split at h
    · simp only [Bool.and_eq_true, decide_eq_true_eq] at h
      obtain ⟨⟨⟨⟨rfl, rfl⟩, h1⟩, h2⟩, h3⟩ := h
      have q := (sndE (F := F) e X sc none _ o.toOkx h3).v
      exact pS_dkPush (tv_of o.toOkx h2) q.o (ok_ix rfl) (ok_star q.ok) (ok_base rfl) (by rw [h1]; simp) (few1 q.ok) rfl
    · cases h
  | .brk, X, sc, st, o, h => by
    simp only [chkS] at h
    split at h
    · exact pS_brk
    · cases h
  | .cont, X, sc, st, o, h => by
    simp only [chkS] at h
    split at h
    · exact pS_cont
    · cases h
theorem sndSs : ∀ (ss : Ss) (X : Cx) (sc : Scope) (sts : List Stmt), Oks T C N n X sc → chkSs T N ss sc sts = true → PSs X sts (tS X.K F (evSs C ss))
  | .nil, X, sc, sts, o, h => by
    cases sts with
    | nil => exact ss_nil
    | cons _ _ => simp [chkSs] at h
  | .cons s ss, X, sc, sts, o, h => by
    by_cases hf : ∃ i, s = .frz i
    · obtain ⟨i, rfl⟩ := hf
      simp only [chkSs] at h
      exact ss_frz (sndSs ss X sc sts o h)
    · have h' : ∃ st r, sts = st :: r ∧ chkS T N s sc st = true ∧ chkSs T N ss sc r = true := by
        cases sts with
        | nil => cases s <;> first | (simp [chkSs] at h; done) | exact absurd ⟨_, rfl⟩ hf
        | cons st r =>
          refine ⟨st, r, rfl, ?_⟩
          cases s <;> first | (simp only [chkSs, Bool.and_eq_true] at h; exact h) | exact absurd ⟨_, rfl⟩ hf
      obtain ⟨st, r, rfl, h1, h2⟩ := h'
      exact ss_cons (sndS s X sc st o h1) (sndSs ss X sc r o h2)
end
end TA

set_option maxHeartbeats 4000000
/-! All defs of a table, at every depth: they do what the small language says. -/
namespace TA
open PySem PySem.Spec PyProof.Rows L2
variable {P : Program} {w : World} {K : PySem.W.Frag} {mg : Str → Option Value} {base : Heap} {T : Tab} {Pg : Prog}

/-- a def of the table: its datum in the small language, its text, its function object -/
structure DefOk (K : PySem.W.Frag) (mg : Str → Option Value) (T : Tab) (Pg : Prog) (i : Nat) (q : Str × Nat) (f : Addr) (fd : FuncData) (ps : List Str) : Prop where
  ex : ∃ (d : FD) (x qual : Str) (params : Arguments) (body : List Stmt) (scope : Scope) (dvs : List V) (kws : List (Str × V)) (N : List Str),
    Pg.defs[i]? = some d ∧ FunD K x qual params body scope dvs kws f fd ∧ FnScope N ps scope ∧ d.np = ps.length ∧ q.2 = d.np ∧ d.nn = N.length ∧ chkSs T N d.body scope body = true ∧ mg q.1 = some (.ref f) ∧ Binds K fd ps [] ∧
    ∀ (kn : Nat) ks, T.kws[kn]? = some (i, ks) → ∃ pm, Pg.kws[kn]? = some pm ∧ ∀ (s : Shared) (ws : List Value), K.In s.heap → ws.length = ks.length → BindsTo s fd ⟨[], ks.zip ws⟩ (ps.zip (permL pm ws))
structure TabOk (K : PySem.W.Frag) (mg : Str → Option Value) (base : Heap) (T : Tab) (Pg : Prog) : Prop where
  defs : ∀ (i : Nat) q, T.fns[i]? = some q → ∃ f fd ps, DefOk K mg T Pg i q f fd ps
  fr : ∀ x, T.fr.contains x = true → mg x = none
  gls : ∀ (i : Nat) x, T.gls[i]? = some x → ∃ u v, mg x = some u ∧ RelV v u ∧ ∀ d, Pg.gl[i]? = some d → ∀ G, Rd K G v d
  sys : ∃ o, base.get? sysModules = some o
theorem callD_len {n i : Nat} {q : Str × Nat} {f : Addr} {fd : FuncData} {ps : List Str} (D : DefOk K mg T Pg i q f fd ps) : ∀ xs k r, callD Pg n i xs k = some r → xs.length = q.2 := by
  intro xs k r h
  obtain ⟨d, x, qual, params, body, scope, dvs, kws, N, h1, h2, h3, h4, h5, h6, _⟩ := D.ex
  cases n with
  | zero => cases h
  | succ n =>
    rw [callD, h1] at h
    simp only at h
    split at h
    · rename_i e; rw [h5]; exact e
    · cases h
theorem allG (TO : TabOk K mg base T Pg) : ∀ (n i : Nat) (q : Str × Nat) (f : Addr) (fd : FuncData) (ps : List Str), DefOk K mg T Pg i q f fd ps → FnG P w K mg base n f fd ps (spD K q.2 (callD Pg n i))
  | 0, i, q, f, fd, ps, D => by
    refine ⟨fun vs H Q E z => ?_, fun A outer s H args us vs Q _ _ _ _ _ z => ?_⟩
    · obtain ⟨g, xs, k, r, k', _, _, _, _, z, _⟩ := z; cases z
    · obtain ⟨g, xs, k, r, k', _, _, _, _, z, _⟩ := z; cases z
  | n + 1, i, q, f, fd, ps, D => by
    obtain ⟨d, x, qual, params, body, scope, dvs, kws, N, h1, h2, h3, h4, h5, h6, h7, h8, h9, h10⟩ := D.ex
    have ih := allG TO n
    refine fnG_of h2 h3 (fun vs H Q E z => ?_) (fun cdv A outer s H vs Q hr hg z => ?_)
    · obtain ⟨g, xs, k, r, k', z1, z2, z3, z4, z5, _⟩ := z
      rw [z3.length, z4, h5, h4]
    · obtain ⟨g, xs, k, r, k', z1, z2, z3, z4, z5, z6⟩ := z
      rw [callD, h1] at z5
      simp only at z5
      rw [if_pos (z4.trans h5)] at z5
      refine ⟨tS K ⟨g.G, H, g.dA⟩ (evSs ⟨callD Pg n, Pg.gl, Pg.kws, Pg.wf⟩ d.body), ?_, ?_⟩
      · refine sndSs (T := T) (N := N) (n := n) (C := ⟨callD Pg n, Pg.gl, Pg.kws, Pg.wf⟩) d.body _ scope body ⟨⟨rfl, h3.nd, rfl, rfl, PassesOwn.never, TO.sys, hg, hr, TO.fr, TO.gls, ?_, ?_⟩, rfl, h3.kind⟩ h7
        · intro j p hj
          obtain ⟨f', fd', ps', D'⟩ := TO.defs j p hj
          obtain ⟨d', x', qual', params', body', scope', dvs', kws', N', e1, e2, e3, e4, e5, e6, e7, e8, e9, e10⟩ := D'.ex
          exact ⟨f', fd', ps', ih j p f' fd' ps' D', e8, e2.kp, e9, e10⟩
        · intro j p hj
          obtain ⟨f', fd', ps', D'⟩ := TO.defs j p hj
          exact callD_len D'
      · cases he : evSs ⟨callD Pg n, Pg.gl, Pg.kws, Pg.wf⟩ d.body (begin d xs) k with
        | none => rw [he] at z5; cases z5
        | some y =>
          obtain ⟨fl, k1⟩ := y
          rw [he] at z5
          refine ⟨g, begin d xs, k, fl, k1, begin_rel z1 z2 z3 h6, he, ?_⟩
          cases fl with
          | nx ρ' =>
            simp only [endOf, Option.some.injEq, Prod.mk.injEq] at z5
            obtain ⟨rfl, rfl⟩ := z5
            intro σ' g' H' R _
            exact z6 .non g' H' (post_of R (show SR K _ g' H' .non (.d .none) from Rd.non))
          | rt v =>
            simp only [endOf, Option.some.injEq, Prod.mk.injEq] at z5
            obtain ⟨rfl, rfl⟩ := z5
            intro u g' H' σ' ρ' R _ sr
            exact z6 u g' H' (post_of R sr)
          | bk _ => cases z5
          | ct _ => cases z5
end TA

set_option maxHeartbeats 4000000
/-! The head: what is read of the heap behind the top (a part without lists), and the law's call. -/
namespace TA
open PySem PySem.Spec PyProof.Rows L2

def isLst (o : Obj) : Bool := match o.cls with
  | .type c => c == "list"
  | _ => false
def NoLst (K : PySem.W.Frag) : Prop := ∀ a o, K.lookup a = some o → isLst o = false
theorem look_mem {α : Type} : ∀ {l : List (Addr × α)} {a : Addr} {o : α}, l.lookup a = some o → (a, o) ∈ l
  | (b, p) :: r, a, o, h => by
    rw [List.lookup_cons] at h
    cases e : a == b with
    | true =>
      rw [e] at h
      cases h
      rw [beq_iff_eq.mp e]
      exact List.mem_cons_self
    | false =>
      rw [e] at h
      exact List.mem_cons_of_mem _ (look_mem h)
def asT (g : Addr → Option Obj) (n : Nat) : List Addr := (sysModules :: He.asD g n).filter fun a => match g a with
  | some o => !isLst o
  | none => false
abbrev AlT : Type := Bool × He.AlD
def obsT (fa : List He.Fa) (fn : List He.DefD) (tb : List (Str × List He.Dv)) (K : PySem.W.Frag) : AlT :=
  ((K.lookup sysModules).isSome && (K.all (fun p => !isLst p.2) && tb.all fun t => He.tupB K t.1 t.2), He.obsD fa fn K)
def SaysT (fa : List He.Fa) (fn : List He.DefD) (tb : List (Str × List He.Dv)) (K : PySem.W.Frag) : Prop := obsT fa fn tb K = (true, He.valD fn)
def obsTG (n : Nat) (fa : List He.Fa) (fn : List He.DefD) (tb : List (Str × List He.Dv)) (g : Addr → Option Obj) : AlT := obsT fa fn tb (He.frG g (asT g n))
def hookT (n : Nat) (fa : List He.Fa) (fn : List He.DefD) (tb : List (Str × List He.Dv)) : PySem.W.Hook where
  α := AlT
  obs := fun s => obsTG n fa fn tb s.heap.get?
  val := fun _ => (true, He.valD fn)
  says := fun _ h => ∃ K : PySem.W.Frag, K.In h ∧ SaysT fa fn tb K
  of := fun _ _ e => ⟨_, He.frG_in, e⟩
  keeps := fun _ _ _ ⟨K, hK, c⟩ k => ⟨K, PySem.W.Frag.In.keeps hK k, c⟩
theorem obsTG_eq {n : Nat} {fa : List He.Fa} {fn : List He.DefD} {tb : List (Str × List He.Dv)} {g : Addr → Option Obj} {s : Shared} (h : ∀ a, g a = s.heap.get? a) : obsTG n fa fn tb g = (hookT n fa fn tb).obs s := by
  rw [show g = s.heap.get? from funext h]; rfl
section
variable {fa : List He.Fa} {fn : List He.DefD} {tb : List (Str × List He.Dv)} {K : PySem.W.Frag}
theorem SaysT.d (c : SaysT fa fn tb K) : He.SaysD fa fn K := congrArg (fun z : AlT => z.2) c
theorem SaysT.parts (c : SaysT fa fn tb K) : (∃ o, K.lookup sysModules = some o) ∧ NoLst K ∧ ∀ t ∈ tb, He.tupB K t.1 t.2 = true := by
  have e : ((K.lookup sysModules).isSome && (K.all (fun p => !isLst p.2) && tb.all fun t => He.tupB K t.1 t.2)) = true := congrArg (fun z : AlT => z.1) c
  rw [Bool.and_eq_true, Bool.and_eq_true] at e
  refine ⟨Option.isSome_iff_exists.mp e.1, fun a o h => ?_, List.all_eq_true.mp e.2.2⟩
  have := List.all_eq_true.mp e.2.1 _ (look_mem h)
  simpa using this
end
/-- the heap at the law's entry: the script alone, frozen -/
def scr (a : Addr) (vs : List Value) (ns : List Int) : Hp := fun b => if b = a then some (.frz { cls := .type "list", data := .seq vs.toArray } (.lst (ns.map V.int))) else none
theorem law_callG {P : Program} {w : World} {K : PySem.W.Frag} {mg mb : Str → Option Value} {k : Nat} {fa a : Addr} {fd : FuncData} {x : Str} {sp : Sp} {s1 : Shared} {vs : List Value} {ns : List Int}
    (KX : K.In s1.heap) (NL : NoLst K) (gm : s1.heap.Ns mainGlobals mg) (gb : s1.heap.Ns builtinsNs mb) (bb : ∀ x : Str, x ≠ "__name__" → mb x = bootBuiltins x) (nolim : s1.heap.NoLimit) (gen0 : s1.gens = #[])
    (at_a : s1.heap.get? a = some { cls := .type "list", data := .seq vs.toArray }) (inAre : IntsAre vs ns) (short : ns.length ≤ sizeLine) (hr : Room k callerA)
    (F : ∀ base : Heap, K.In base → base.Ns mainGlobals mg → FnG P w K mg base k fa fd [x] sp) (bnds : ∀ (s : Shared) (u : Value), BindsTo s fd ⟨[u], []⟩ [(x, u)])
    (hsp : sp [.ref a] (scr a vs ns) (fun v _ => v = .bl true) E0) :
    codeAny (model P w) callerA (.call (.ref fa) ⟨[.ref a], []⟩) (fun r s' => r = .ok (.ret (.bool true)) ∧ OldK s1.heap s'.heap ∧ s'.os = s1.os ∧ AllBare s'.gens) s1 := by
  have off : ∀ {b : Addr} {u : HO}, scr a vs ns b = some u → b = a ∧ u = .frz { cls := .type "list", data := .seq vs.toArray } (.lst (ns.map V.int)) := fun {b u} z => by
    unfold scr at z
    split at z
    · cases z; exact ⟨by assumption, rfl⟩
    · cases z
  have none_of : ∀ {b : Addr}, b ≠ a → scr a vs ns b = none := fun n => if_neg n
  have kept : ∀ {b : Addr} {o : Obj}, s1.heap.get? b = some o → isLst o = false → (hidT s1.heap (scr a vs ns)).get? b = some o := fun {b o} e n => hidT_get e (none_of fun z => by
    subst z
    rw [at_a] at e
    cases e
    cases n)
  have dicts : ∀ {b : Addr} {m : Str → Option Value}, s1.heap.Ns b m → (hidT s1.heap (scr a vs ns)).Ns b m := fun {b m} ⟨o, es, ep, e, d, r⟩ => ⟨o, es, ep, hidT_get e (none_of fun z => by
    subst z
    rw [at_a] at e
    cases e
    cases d), d, r⟩
  have KB : K.In (hidT s1.heap (scr a vs ns)) := fun b o e => kept (KX b o e) (NL b o e)
  have M : Mod K mg (hidT s1.heap (scr a vs ns)) := ⟨KB, dicts gm, ⟨mb, dicts gb, bb⟩, let ⟨mc, z1, z2⟩ := nolim; ⟨mc, dicts z1, z2⟩⟩
  have hk : HOk P w (scr a vs ns) s1.heap := fun b u z => by
    obtain ⟨rfl, rfl⟩ := off z
    exact ⟨at_a, by rw [List.length_map]; exact short, vs, _, vals_ints inAre, at_a⟩
  have E : Env0 P w K mg (hidT s1.heap (scr a vs ns)) callerA [] s1 (scr a vs ns) := ⟨rfl, M, fun b o e => of_hidT e, Nat.le_of_eq (hidT_size _ _), trivial, fun b z => absurd (show b ∈ ([] : List Addr) from z) (by simp), hk, .of_eq gen0⟩
  refine codeAny_mono ((F _ KB (dicts gm)).run callerA [] s1 (scr a vs ns) ⟨[.ref a], []⟩ [.ref a] [.ref a] _ hr rfl E (bnds s1 (.ref a)) (.cons rfl .nil) hsp) fun r s' h => ?_
  cases r with
  | error e => exact h.elim
  | ok fl =>
    cases fl with
    | ret u =>
      obtain ⟨v, H', os, bare, un, hok', rv, q⟩ := h
      have q2 : v = .bl true := q
      subst q2
      obtain rfl : u = Value.bool true := rv
      refine ⟨rfl, OldK.of_keep fun b o e => ?_, os, bare⟩
      by_cases n : b = a
      · subst n
        have z : scr b vs ns b = some (.frz { cls := .type "list", data := .seq vs.toArray } (.lst (ns.map V.int))) := if_pos rfl
        obtain ⟨t1, _⟩ := hok' b _ (un.frzs b _ _ z)
        rw [at_a] at e
        cases e
        exact t1
      · exact un.keep b o e (none_of n) (fun z => absurd (show b ∈ ([] : List Addr) from z) (by simp)) (by simp)
    | _ => exact h.elim
theorem walk_ofG {l : PySem.W.OpenLaw} {n k : Nat} {q : Program} {loose : List Str} {XP : (Str → Option Value) → Heap → Prop} {YP : World → Heap → Prop} {d : DefRec} {x : Str} (hn : l.most = some n) (hn2 : n ≤ sizeLine) (hdf : d.params.defaults = []) (hr : Room k callerA)
    (F : ∀ (w : World) (mg : Str → Option Value) (fa : Addr) (h : Heap), YP w h → h.Ns mainGlobals mg → mg d.name = some (.ref fa) → ∃ (K : PySem.W.Frag) (fd : FuncData) (sp : Sp), K.In h ∧ NoLst K ∧ (∀ (s : Shared) (u : Value), BindsTo s fd ⟨[u], []⟩ [(x, u)]) ∧
      (∀ (a : Addr) (vs : List Value) (ns : List Int), ns.length ≤ n → (∀ z ∈ ns, Builtin.Int.intBits z ≤ 1048576) → sp [.ref a] (scr a vs ns) (fun v _ => v = .bl true) E0) ∧ ∀ base : Heap, K.In base → base.Ns mainGlobals mg → FnG l.prog w K mg base k fa fd [x] sp) :
    PySem.W.WalkO q loose XP YP l.row.toRowW d [] (fun f vs => PySem.call f vs) := by
  refine Att.attach_callB hn hdf fun w s0 s1 mg mb fa o pm cd doc a vs ns G Y ho hd hcd hmg hobj hints hlen hbits hg => ?_
  obtain ⟨K, fd, sp, KX, NL, hb, hsp, hF⟩ := F w mg fa _ Y G.T.g hmg
  exact law_callG KX NL G.T.g G.T.b G.T.builtins G.T.nolimit hg hobj hints (Nat.le_trans hlen hn2) hr hF hb (hsp a vs ns hlen hbits)
theorem rdInts {K : PySem.W.Frag} (G : Hp) : ∀ ns : List Int, RdA K G (ns.map V.int) (ns.map .int)
  | [] => .nil
  | i :: r => .cons (.int i) (rdInts G r)
/-- the law's def keeps its promise where the small language says True -/
theorem sp_law {K : PySem.W.Frag} {a : Addr} {vs : List Value} {ns : List Int} {f : List DV → OD → Option (DV × OD)} (h : ∃ k', f [.d (.list (ns.map .int))] none = some (.d (.bool true), k')) : spD K 1 f [.ref a] (scr a vs ns) (fun v _ => v = .bl true) E0 := by
  obtain ⟨k', h⟩ := h
  refine ⟨⟨scr a vs ns, none⟩, [.d (.list (ns.map .int))], none, _, k', fun _ _ e => e, trivial, ⟨?_, trivial⟩, rfl, h, fun v g' H' P => ?_⟩
  · refine Rd.lst (vs := ns.map V.int) (.inr ⟨_, show scr a vs ns a = _ from if_pos rfl⟩) ?_
    exact rdInts _ ns
  · cases P.res
    rfl
end TA

set_option maxHeartbeats 4000000
/-! A law's table from its rows: what the head says of the heap makes every def's promise good. -/
namespace TA
open PySem PySem.Spec PyProof.Rows L2
structure Row where
  name : Str
  st : Stmt
  N : List Str
  ps : List Str
  d : FD
def Row.dd (r : Row) : He.DefD := ⟨(r.name, none), r.name, r.name, defArgs r.st, defBody r.st, defScope r.st, [], []⟩
def scC (N ps : List Str) (sc : Scope) : Bool := (match sc.kind with
  | .function => true
  | _ => false) && !sc.isCoroutine && !sc.isGenerator && decide N.Nodup && decide (N.take ps.length = ps) && (ps.all fun x => locB sc x) && sc.names.all fun y => match y.2 with
  | .free => false
  | _ => true
theorem scC_ok {N ps : List Str} {sc : Scope} (h : scC N ps sc = true) : FnScope N ps sc := by
  simp only [scC, Bool.and_eq_true, Bool.not_eq_true', decide_eq_true_eq, List.all_eq_true] at h
  obtain ⟨⟨⟨⟨⟨⟨h1, h2⟩, h3⟩, h4⟩, h5⟩, h6⟩, h7⟩ := h
  refine ⟨?_, h2, h3, h4, h5, fun x hx => locB_iff (h6 x hx), fun y hy e => ?_⟩
  · split at h1
    · assumption
    · cases h1
  · have := h7 y hy
    rw [e] at this
    cases this
def rowC (T : Tab) (r : Row) : Bool := scC r.N r.ps (defScope r.st) && decide (r.d.np = r.ps.length) && decide (r.d.nn = r.N.length) && chkSs T r.N r.d.body (defScope r.st) (defBody r.st)
def BindR (r : Row) : Prop := ∀ (kV doc pm : Value) (an : Option Addr) (cdv ct : Value) (us : List Value), us.length = r.ps.length → bindArgs (PySem.W.fnOf r.name r.name (defArgs r.st) (defBody r.st) (defScope r.st) .none kV doc pm an cdv ct) ⟨us, []⟩ = pure (r.ps.zip us)
def KwR (r : Row) (ks : List Str) (pm : List Nat) : Prop := ∀ (kV doc p : Value) (an : Option Addr) (cdv ct : Value) (us : List Value), us.length = ks.length → bindArgs (PySem.W.fnOf r.name r.name (defArgs r.st) (defBody r.st) (defScope r.st) .none kV doc p an cdv ct) ⟨[], ks.zip us⟩ = pure (r.ps.zip (permL pm us))
inductive Cst where
  | int (i : Int)
  | str (z : Str)
  | tup (vs : List He.Dv)
def dvD : He.Dv → PyData
  | .non => .none
  | .bl b => .bool b
  | .int i => .int i
  | .str x => .str x
  | _ => .none
def dvOk : He.Dv → Bool
  | .non => true
  | .bl _ => true
  | .int _ => true
  | .str _ => true
  | _ => false
def Cst.d : Cst → PyData
  | .int i => .int i
  | .str z => .str z
  | .tup vs => .tuple (vs.map dvD)
def Cst.fa (x : Str) : Cst → He.Fa
  | .int i => .int x i
  | .str z => .str x z
  | .tup _ => .glo x
def Cst.ok : Cst → Bool
  | .tup vs => vs.all dvOk
  | _ => true
def Cst.tb (x : Str) : Cst → List (Str × List He.Dv)
  | .tup vs => [(x, vs)]
  | _ => []
def faOf (rows : List Row) (fr : List Str) (cs : List (Str × Cst)) : List He.Fa := rows.map (fun r => .glo r.name) ++ (fr.map .free ++ cs.map fun c => c.2.fa c.1)
def tbOf (cs : List (Str × Cst)) : List (Str × List He.Dv) := cs.flatMap fun c => c.2.tb c.1
theorem saysMem {fa : List He.Fa} {fn : List He.DefD} {K : PySem.W.Frag} (c : He.SaysD fa fn K) {f : He.Fa} (h : f ∈ fa) : f.ok K = true := by
  obtain ⟨i, hi⟩ := List.getElem?_of_mem h
  exact c.fact i hi
theorem rdDv {K : PySem.W.Frag} {G : Hp} : ∀ {vs : List He.Dv}, vs.all dvOk = true → RdA K G (vs.map (He.Dv.v K)) (vs.map dvD)
  | [], _ => .nil
  | v :: vs, h => by
    rw [List.all_cons, Bool.and_eq_true] at h
    refine .cons ?_ (rdDv h.2)
    cases v with
    | non => exact .non
    | bl b => exact .bl b
    | int i => exact .int i
    | str x => exact .str x
    | _ => cases h.1
/-- all that a law's file shows of its table, by reckoning -/
structure RowsOk (rows : List Row) (T : Tab) (Pg : Prog) (cs : List (Str × Cst)) : Prop where
  fns : T.fns = rows.map fun r => (r.name, r.ps.length)
  defs : Pg.defs = rows.map (·.d)
  chk : (rows.all (rowC T) && cs.all fun c => c.2.ok) = true
  bnd : ∀ r ∈ rows, BindR r
  gls : T.gls = cs.map (·.1)
  gl : Pg.gl = cs.map (·.2.d)
  kws : ∀ (kn : Nat) i ks, T.kws[kn]? = some (i, ks) → ∃ pm r, Pg.kws[kn]? = some pm ∧ rows[i]? = some r ∧ KwR r ks pm
theorem defOk {rows : List Row} {T : Tab} {Pg : Prog} {cs : List (Str × Cst)} (R : RowsOk rows T Pg cs) {K : PySem.W.Frag} {h : Heap} {mg : Str → Option Value} (X : K.In h) (G : h.Ns mainGlobals mg) (c : SaysT (faOf rows T.fr cs) (rows.map Row.dd) (tbOf cs) K) {i : Nat} {r : Row} (hr : rows[i]? = some r) :
    ∃ fd, DefOk K mg T Pg i (r.name, r.ps.length) (He.ga K r.name) fd r.ps ∧ FunD K r.name r.name (defArgs r.st) (defBody r.st) (defScope r.st) [] [] (He.ga K r.name) fd := by
  have mem := List.mem_of_getElem? hr
  obtain ⟨fd, F⟩ := c.d.def_ i (d := r.dd) (by rw [List.getElem?_map, hr]; rfl)
  have ck := List.all_eq_true.mp (Bool.and_eq_true_iff.mp R.chk).1 r mem
  simp only [rowC, Bool.and_eq_true, decide_eq_true_eq] at ck
  obtain ⟨⟨⟨k1, k2⟩, k3⟩, k4⟩ := ck
  have hg := He.glo_ok X G (saysMem c.d (f := .glo r.name) (List.mem_append.mpr (.inl (List.mem_map.mpr ⟨r, mem, rfl⟩))))
  refine ⟨fd, ⟨⟨r.d, r.name, r.name, defArgs r.st, defBody r.st, defScope r.st, [], [], r.N, by rw [R.defs, List.getElem?_map, hr]; rfl, F, scC_ok k1, k2, k2.symm, k3, k4, hg, F.bindsN (R.bnd r mem), fun kn ks hk => ?_⟩⟩, F⟩
  obtain ⟨pm, r', p1, p2, p3⟩ := R.kws kn i ks hk
  rw [hr] at p2
  cases p2
  refine ⟨pm, p1, fun s ws _ hl => ?_⟩
  obtain ⟨oc, od, dV, kV, doc, pm2, an, cdv, ct, osl, e, lk, hcd, hD, hK⟩ := F.ex
  subst e
  rcases hD with ⟨_, e⟩ | ⟨e, _⟩
  · subst e
    exact .of_eq (p3 kV doc pm2 an cdv ct ws hl)
  · exact absurd rfl e
theorem tabOk {rows : List Row} {T : Tab} {Pg : Prog} {cs : List (Str × Cst)} (R : RowsOk rows T Pg cs) {K : PySem.W.Frag} {h base : Heap} {mg : Str → Option Value} (X : K.In h) (G : h.Ns mainGlobals mg) (B : K.In base)
    (c : SaysT (faOf rows T.fr cs) (rows.map Row.dd) (tbOf cs) K) : TabOk K mg base T Pg where
  defs := fun i q hq => by
    rw [R.fns, List.getElem?_map, Option.map_eq_some_iff] at hq
    obtain ⟨r, hr, rfl⟩ := hq
    obtain ⟨fd, D, _⟩ := defOk R X G c hr
    exact ⟨_, fd, _, D⟩
  fr := fun x hx => He.free_ok X G (saysMem c.d (f := .free x) (List.mem_append.mpr (.inr (List.mem_append.mpr (.inl (List.mem_map.mpr ⟨x, by simpa using hx, rfl⟩))))))
  gls := fun i x hx => by
    rw [R.gls, List.getElem?_map, Option.map_eq_some_iff] at hx
    obtain ⟨⟨x', q⟩, hq, e⟩ := hx
    have e' : x' = x := e
    subst e'
    have mem := List.mem_of_getElem? hq
    have hf := saysMem c.d (f := q.fa x') (List.mem_append.mpr (.inr (List.mem_append.mpr (.inr (List.mem_map.mpr ⟨_, mem, rfl⟩)))))
    have he : Pg.gl[i]? = some q.d := by rw [R.gl, List.getElem?_map, hq]; rfl
    cases q with
    | int n =>
      obtain ⟨t, ht⟩ := He.int_ok X G hf
      exact ⟨_, .int n, ht, ⟨t, rfl⟩, fun d hd G => by rw [he] at hd; cases hd; exact .int n⟩
    | str z =>
      obtain ⟨t, ht⟩ := He.str_ok X G hf
      exact ⟨_, .str z, ht, ⟨t, rfl⟩, fun d hd G => by rw [he] at hd; cases hd; exact .str z⟩
    | tup vs =>
      have hg := He.glo_ok X G hf
      have tb := c.parts.2.2 (x', vs) (List.mem_flatMap.mpr ⟨_, mem, List.mem_singleton.mpr rfl⟩)
      have ok := List.all_eq_true.mp (Bool.and_eq_true_iff.mp R.chk).2 _ mem
      exact ⟨_, .ref (He.ga K x'), hg, rfl, fun d hd G => by rw [he] at hd; cases hd; exact .tup (He.tupB_ok tb G) (rdDv ok)⟩
  sys := by
    obtain ⟨o, ho⟩ := c.parts.1
    exact ⟨o, B _ _ ho⟩
/-- the law's facts: the def at place i of the table is the law's -/
theorem lawFacts {rows : List Row} {T : Tab} {Pg : Prog} {cs : List (Str × Cst)} (R : RowsOk rows T Pg cs) {l : PySem.W.OpenLaw} {w : World} {K : PySem.W.Frag} {h : Heap} {mg : Str → Option Value} {fa : Addr} {i n m : Nat} {r : Row} {x : Str} (X : K.In h) (G : h.Ns mainGlobals mg)
    (c : SaysT (faOf rows T.fr cs) (rows.map Row.dd) (tbOf cs) K) (hr : rows[i]? = some r) (hx : r.ps = [x]) (hm : mg r.name = some (.ref fa)) (run : ∀ ns : List Int, ns.length ≤ m → (∀ z ∈ ns, Builtin.Int.intBits z ≤ 1048576) → ∃ k', callD Pg n i [.d (.list (ns.map .int))] none = some (.d (.bool true), k')) :
    ∃ (K : PySem.W.Frag) (fd : FuncData) (sp : Sp), K.In h ∧ NoLst K ∧ (∀ (s : Shared) (u : Value), BindsTo s fd ⟨[u], []⟩ [(x, u)]) ∧
      (∀ (a : Addr) (vs : List Value) (ns : List Int), ns.length ≤ m → (∀ z ∈ ns, Builtin.Int.intBits z ≤ 1048576) → sp [.ref a] (scr a vs ns) (fun v _ => v = .bl true) E0) ∧ ∀ base : Heap, K.In base → base.Ns mainGlobals mg → FnG l.prog w K mg base n fa fd [x] sp := by
  have mem := List.mem_of_getElem? hr
  obtain ⟨fd, D, F⟩ := defOk R X G c hr
  have hg := He.glo_ok X G (saysMem c.d (f := .glo r.name) (List.mem_append.mpr (.inl (List.mem_map.mpr ⟨r, mem, rfl⟩))))
  rw [hm] at hg
  cases hg
  refine ⟨K, fd, spD K 1 (callD Pg n i), X, c.parts.2.1, fun s u => ?_, fun a vs ns h1 h2 => sp_law (run ns h1 h2), fun base B GB => ?_⟩
  · have b := FunD.bindsA (ps := r.ps) F (R.bnd r mem) s [u] (by rw [hx]; rfl)
    rw [hx] at b
    exact b
  · have g := allG (P := l.prog) (w := w) (tabOk R (base := base) X G B c) n i _ _ fd r.ps D
    rw [hx] at g
    exact g
end TA

set_option maxHeartbeats 4000000
/-! The deck: what is drawn lies below the bound, whatever the script. -/
namespace TM
open PySem TA
structure DkOk (c : Int) (q : Dk) : Prop where
  len : q.cells.length ≤ 63
  pos : 0 ≤ q.cnt
  le : q.cnt ≤ c
theorem DkOk.mono {c d : Int} {q : Dk} (h : DkOk c q) (l : c ≤ d) : DkOk d q := ⟨h.len, h.pos, Int.le_trans h.le l⟩
def drawB : Ss := (.cons (.dkSet 0 (.bin .Add (.dkCnt 0) (.int 1))) (.cons (.set 2 (.dkTot 0)) (.cons (.ite (.dkNE 0) (.cons (.set 2 (.dkPop 0)) (.cons (.ite (.cmp .GtE (.var 2) (.bin .Pow (.int 10) (.int 18))) (.cons (.dkPush 0 (.bin .FloorDiv (.var 2) (.var 1))) (.cons (.ret (.bin .Mod (.var 2) (.var 1))) .nil)) .nil) (.cons (.set 2 (.bin .Add (.var 2) (.dkTot 0))) (.cons (.frz 2) .nil)))) .nil) (.cons (.set 3 (.bin .Mod (.bin .Mult (.bin .Add (.bin .Add (.bin .Mod (.var 2) (.int 2147483587)) (.bin .Mult (.bin .Mult (.int 92821) (.dkCnt 0)) (.dkCnt 0))) (.int 53)) (.int 48271)) (.int 2147483647))) (.cons (.set 3 (.bin .Mod (.bin .Add (.bin .Add (.bin .Mult (.var 3) (.var 3)) (.bin .Mult (.int 39373) (.dkCnt 0))) (.int 19)) (.int 2147483629))) (.cons (.ret (.bin .Mod (.bin .FloorDiv (.bin .Mod (.bin .Mult (.var 3) (.int 40692)) (.int 2147483563)) (.int 64)) (.var 1))) .nil))))))
theorem sm {i : Int} (h : 0 ≤ i) (l : i < 2 ^ 64) : smallI i = true := by
  simp only [smallI, Bool.and_eq_true, decide_eq_true_eq]; omega
theorem mulD {i j : Int} (h : smallI i = true ∨ smallI j = true) : binD .Mult (.int i) (.int j) = some (.d (.int (i * j))) := by
  have e : (smallI i || smallI j) = true := by rcases h with h | h <;> simp [h]
  simp only [binD, e, if_true]
theorem addD {i j : Int} : binD .Add (.int i) (.int j) = some (.d (.int (i + j))) := rfl
theorem modD {i j : Int} (h : 0 < j) : binD .Mod (.int i) (.int j) = some (.d (.int (i % j))) := by simp only [binD, h, if_true]
theorem divD {i j : Int} (h : 0 < j) (l : j < 1073741824) : binD .FloorDiv (.int i) (.int j) = some (.d (.int (i / j))) := by simp only [binD, h, l, and_self, if_true]
theorem pow18 : binD .Pow (.int 10) (.int 18) = some (.d (.int 1000000000000000000)) := by
  simp only [binD]; rw [if_pos (by decide)]; rfl
theorem tail_ok (C : TA.Ctx) (q : Dk) (m x : Int) (y : Option DV) (hm : 0 < m) (h2 : m < 1073741824) (h0 : 0 ≤ q.cnt) (hc : q.cnt < 2 ^ 60) : ∃ r, evSs C (.cons (.set 3 (.bin .Mod (.bin .Mult (.bin .Add (.bin .Add (.bin .Mod (.var 2) (.int 2147483587)) (.bin .Mult (.bin .Mult (.int 92821) (.dkCnt 0)) (.dkCnt 0))) (.int 53)) (.int 48271)) (.int 2147483647))) (.cons (.set 3 (.bin .Mod (.bin .Add (.bin .Add (.bin .Mult (.var 3) (.var 3)) (.bin .Mult (.int 39373) (.dkCnt 0))) (.int 19)) (.int 2147483629))) (.cons (.ret (.bin .Mod (.bin .FloorDiv (.bin .Mod (.bin .Mult (.var 3) (.int 40692)) (.int 2147483563)) (.int 64)) (.var 1))) .nil))) [some .dk, some (.d (.int m)), some (.d (.int x)), y] (some q) = some (.rt (.d (.int r)), some q) ∧ 0 ≤ r ∧ r < m := by
  have s1 := sm h0 (by omega)
  have b1 : ∀ z : Int, smallI (z % 2147483647) = true := fun z => sm (Int.emod_nonneg _ (by decide)) (by have := Int.emod_lt_of_pos z (show (0 : Int) < 2147483647 by decide); omega)
  simp only [evSs, evS, evA, evAs, smV, smB, Cm.bnd, Cm.lift, Cm.ret, varV, varO, DV.dat, DV.fz, List.getElem?_cons_zero, List.getElem?_cons_succ, List.set_cons_zero, List.set_cons_succ, Option.map_some, Option.map_none, Option.bind_some, Option.bind_none, argsL, datsL, opdsL, valsL, setAll, bopV, bopT, callM, intD, dkOf, popDk, isNone, isTy, List.any_cons, List.any_nil, bltD, blt1, blt2, beq_self_eq_true, if_true, if_false, Bool.false_eq_true, reduceIte, Bool.or_false, Bool.false_or, Bool.not_true, Bool.not_false, modD (show (0:Int) < 2147483587 by decide), mulD (i := 92821) (.inl (by decide)), mulD (.inr s1), addD, mulD (j := 48271) (.inr (by decide)), modD (show (0:Int) < 2147483647 by decide), mulD (.inl (b1 _)), mulD (i := 39373) (.inl (by decide)), modD (show (0:Int) < 2147483629 by decide), mulD (j := 40692) (.inr (by decide)), modD (show (0:Int) < 2147483563 by decide), divD (show (0:Int) < 64 by decide) (by decide), modD hm]
  exact ⟨_, rfl, Int.emod_nonneg _ (by omega), Int.emod_lt_of_pos _ hm⟩
theorem draw_ok (C : TA.Ctx) (c : Int) (q : Dk) (m : Int) (hm : 0 < m) (h2 : m < 1073741824) (h : DkOk c q) (hc : c < 2 ^ 50) : ∃ r q', evSs C drawB [some .dk, some (.d (.int m)), none, none] (some q) = some (.rt (.d (.int r)), some q') ∧ 0 ≤ r ∧ r < m ∧ DkOk (c + 1) q' := by
  obtain ⟨hl, h0, h1⟩ := h
  unfold drawB
  cases hq : q.cells.getLast? with
  | none =>
    have e : q.cells = [] := List.getLast?_eq_none_iff.mp hq
    obtain ⟨r, hr, p1, p2⟩ := tail_ok C { q with cnt := q.cnt + 1 } m q.tot none hm h2 (show 0 ≤ q.cnt + 1 by omega) (show q.cnt + 1 < 2 ^ 60 by omega)
    refine ⟨r, { q with cnt := q.cnt + 1 }, ?_, p1, p2, ⟨hl, show 0 ≤ q.cnt + 1 by omega, show q.cnt + 1 ≤ c + 1 by omega⟩⟩
    rw [← hr]
    simp only [evSs, evS, evA, smV, smB, Cm.bnd, Cm.lift, Cm.ret, dkOf, addD, DV.dat, List.getElem?_cons_zero, List.set_cons_succ, List.set_cons_zero, e, List.isEmpty_nil, Bool.not_true]
  | some x =>
    have ne : q.cells.isEmpty = false := by
      cases hz : q.cells with
      | nil => rw [hz] at hq; cases hq
      | cons _ _ => rfl
    have ld : q.cells.dropLast.length ≤ 62 := by rw [List.length_dropLast]; omega
    by_cases hx : (1000000000000000000 : Int) ≤ x
    · refine ⟨x % m, ⟨q.cells.dropLast ++ [x / m], q.tot, q.cnt + 1⟩, ?_, Int.emod_nonneg _ (by omega), Int.emod_lt_of_pos _ hm, ⟨?_, show 0 ≤ q.cnt + 1 by omega, show q.cnt + 1 ≤ c + 1 by omega⟩⟩
      · have ls : q.cells.dropLast.length < sizeLine := Nat.lt_of_le_of_lt ld (by decide)
        simp only [evSs, evS, evA, smV, smB, Cm.bnd, Cm.lift, Cm.ret, dkOf, addD, DV.dat, popDk, varO, varV, List.getElem?_cons_zero, List.getElem?_cons_succ, List.set_cons_succ, List.set_cons_zero, ne, hq, Bool.not_false, pow18, cmpD, hx, decide_true, divD hm h2, modD hm, ls, if_true]
      · show (q.cells.dropLast ++ [x / m]).length ≤ 63
        rw [List.length_append, List.length_singleton]; omega
    · obtain ⟨r, hr, p1, p2⟩ := tail_ok C ⟨q.cells.dropLast, q.tot, q.cnt + 1⟩ m (x + q.tot) none hm h2 (show 0 ≤ q.cnt + 1 by omega) (show q.cnt + 1 < 2 ^ 60 by omega)
      refine ⟨r, ⟨q.cells.dropLast, q.tot, q.cnt + 1⟩, ?_, p1, p2, ⟨show q.cells.dropLast.length ≤ 63 by omega, show 0 ≤ q.cnt + 1 by omega, show q.cnt + 1 ≤ c + 1 by omega⟩⟩
      rw [← hr]
      simp only [evSs, evS, evA, smV, smB, Cm.bnd, Cm.lift, Cm.ret, dkOf, addD, DV.dat, popDk, varO, varV, List.getElem?_cons_zero, List.getElem?_cons_succ, List.set_cons_succ, List.set_cons_zero, ne, hq, Bool.not_false, pow18, cmpD, hx, decide_false]
/-- the deck is made -/
def deckL : Ss := (.cons (.set 2 (.bin .Mod (.bin .Add (.bin .Add (.bin .Mult (.var 2) (.int 69621)) (.bin .Mod (.var 3) (.int 2147483629))) (.int 37)) (.int 2147483587))) .nil)
def deckB : Ss := (.cons (.par [1, 2] (.cons (.blt .list (.cons (.slB (.var 0) (.int 63)) .nil)) (.cons (.int 20903) .nil))) (.cons (.frz 1) (.cons (.loop (.one 3) (.var 1) deckL) (.cons (.retDk (.rev (.var 1)) (.var 2) (.int 0)) .nil))))
theorem deck_loop (C : TA.Ctx) : ∀ (ns : List Int) (a b : Option DV) (t : Int) (y : Option DV), ∃ t' y', forL (.one 3) (evSs C deckL) (ns.map .int) [a, b, some (.d (.int t)), y] none = some (.nx [a, b, some (.d (.int t')), y'], none)
  | [], a, b, t, y => ⟨t, y, rfl⟩
  | n :: ns, a, b, t, y => by
    obtain ⟨t', y', h⟩ := deck_loop C ns a b ((t * 69621 + n % 2147483629 + 37) % 2147483587) (some (.d (.int n)))
    refine ⟨t', y', ?_⟩
    rw [← h, List.map_cons, forL]
    simp only [deckL, setTg, evSs, evS, evA, smV, Cm.bnd, Cm.lift, Cm.ret, varO, DV.dat, List.getElem?_cons_zero, List.getElem?_cons_succ, List.set_cons_succ, List.set_cons_zero, mulD (j := 69621) (.inr (by decide)), modD (show (0:Int) < 2147483629 by decide), addD, modD (show (0:Int) < 2147483587 by decide)]
theorem intsD_map : ∀ ns : List Int, intsD (ns.map .int) = some ns
  | [] => rfl
  | n :: ns => by rw [List.map_cons, intsD, intsD_map ns]
theorem deck_ok (C : TA.Ctx) (ns : List Int) (h : ns.length ≤ 63) : ∃ t, evSs C deckB [some (.d (.list (ns.map .int))), none, none, none] none = some (.rt .dk, some ⟨ns.reverse, t, 0⟩) := by
  have cut : cutL (ns.map PyData.int) none (some 63) = ns.map .int := by
    unfold cutL
    have e1 : HT.sIx (ns.map PyData.int).length 0 none = 0 := HT.sIx_none _ _
    have e2 : HT.sIx (ns.map PyData.int).length (ns.map PyData.int).length (some 63) = min 63 (ns.map PyData.int).length := HT.sIx_nat _ _ 63
    rw [e1, e2, List.drop_zero]
    refine List.take_of_length_le ?_
    rw [List.length_map]; omega
  obtain ⟨t, y, hl⟩ := deck_loop C ns (some (.d (.list (ns.map .int)))) (some (.d (.list (ns.map .int)))) 20903 none
  refine ⟨t, ?_⟩
  have src : (ns.map PyData.int).length ≤ sizeLine := by rw [List.length_map]; exact Nat.le_trans h (by decide)
  unfold deckB
  simp only [evSs, evS, evA, evAs, smV, Cm.bnd, Cm.lift, Cm.ret, varO, varV, DV.dat, valsL, opdsL, bltD, blt1, listB, intD, Option.bind_some, slD, cut, setAll, List.getElem?_cons_zero, List.getElem?_cons_succ, List.set_cons_succ, List.set_cons_zero, Sm.src, itemsD, src, if_true, hl]
  rw [← List.map_reverse]
  simp only [intsD_map]
end TM

set_option maxHeartbeats 4000000
/-! Step rules of the small language. -/
namespace TM
open PySem TA
def thn (r : Option (Fl × OD)) (f : Cs) : Option (Fl × OD) := match r with
  | some (.nx ρ', k2) => f ρ' k2
  | r => r
variable {C : TA.Ctx} {ρ ρ' : TA.Env} {k k1 k2 : OD} {ss : Ss}
theorem r_set {i : Nat} {e : E} {x : DV} (h : (evA C e).v ρ k = some (x, k1)) : evSs C (.cons (.set i e) ss) ρ k = evSs C ss (ρ.set i (some x)) k1 := by simp only [evSs, evS, h]
theorem r_setLc {i : Nat} {e : E} {x : DV} (h : (evA C e).v ρ k = some (x, k1)) : evSs C (.cons (.setLc i e) ss) ρ k = evSs C ss (ρ.set i (some x)) k1 := by simp only [evSs, evS, h]
theorem r_par {is : List Nat} {es : Es} {xs : List DV} (h : valsL (evAs C es) ρ k = some (xs, k1)) (h2 : setAll is xs ρ = some ρ') : evSs C (.cons (.par is es) ss) ρ k = evSs C ss ρ' k1 := by simp only [evSs, evS, h, h2]
theorem r_unp {is : List Nat} {e : E} {xs : List PyData} (h : (evA C e).v ρ k = some (.d (.tuple xs), k1)) (h2 : setMany is xs ρ = some ρ') : evSs C (.cons (.unp is e) ss) ρ k = evSs C ss ρ' k1 := by simp only [evSs, evS, h, h2]
theorem r_t {t : E} {a b : Ss} (h : (evA C t).t ρ k = some (true, k1)) : evSs C (.cons (.ite t a b) ss) ρ k = thn (evSs C a ρ k1) (evSs C ss) := by simp only [evSs, evS, h]; rfl
theorem r_f {t : E} {a b : Ss} (h : (evA C t).t ρ k = some (false, k1)) : evSs C (.cons (.ite t a b) ss) ρ k = thn (evSs C b ρ k1) (evSs C ss) := by simp only [evSs, evS, h]; rfl
theorem r_f0 {t : E} {a : Ss} (h : (evA C t).t ρ k = some (false, k1)) : evSs C (.cons (.ite t a .nil) ss) ρ k = evSs C ss ρ k1 := by simp only [evSs, evS, h]
theorem r_tr {t e : E} {b : Ss} {x : DV} (h : (evA C t).t ρ k = some (true, k1)) (h2 : evSs C (.cons (.ret e) .nil) ρ k1 = some (.rt x, k2)) : evSs C (.cons (.ite t (.cons (.ret e) .nil) b) ss) ρ k = some (.rt x, k2) := by
  rw [r_t h, h2]; rfl
theorem r_ret {e : E} {x : DV} (h : (evA C e).v ρ k = some (x, k1)) : evSs C (.cons (.ret e) ss) ρ k = some (.rt x, k1) := by
  cases e with
  | var i =>
    have h' : varV i ρ k = some (x, k1) := h
    unfold varV at h'
    simp only [evSs, evS]
    split at h'
    · rename_i q; cases h'; simp only [q]
    · rename_i q; cases h'; simp only [q]
    · cases h'
  | _ => simp only [evSs, evS, h]
theorem r_retV {i : Nat} {x : DV} (h : ρ[i]? = some (some x)) : evSs C (.cons (.ret (.var i)) ss) ρ k = some (.rt x, k) := by simp only [evSs, evS, h]
theorem r_frzO {i : Nat} {xs : List PyData} (h : ρ[i]? = some (some (.own xs))) : evSs C (.cons (.frz i) ss) ρ k = evSs C ss (ρ.set i (some (.d (.list xs)))) k := by simp only [evSs, evS, h]
theorem r_frzD {i : Nat} {x : PyData} (h : ρ[i]? = some (some (.d x))) : evSs C (.cons (.frz i) ss) ρ k = evSs C ss ρ k := by simp only [evSs, evS, h]
theorem r_loop {tg : Tg} {src : E} {b : Ss} {xs : List PyData} (h : (evA C src).src ρ k = some (xs, k1)) : evSs C (.cons (.loop tg src b) ss) ρ k = thn (forL tg (evSs C b) xs ρ k1) (evSs C ss) := by simp only [evSs, evS, h]; rfl
theorem r_app {i : Nat} {e : E} {x : DV} {d : PyData} {xs : List PyData} (h : (evA C e).v ρ k = some (x, k1)) (hd : x.dat = some d) (h2 : ρ[i]? = some (some (.own xs))) (h3 : xs.length < sizeLine) : evSs C (.cons (.app i e) ss) ρ k = evSs C ss (ρ.set i (some (.own (xs ++ [d])))) k1 := by
  simp only [evSs, evS, h, hd, h2, h3, if_true]
theorem r_popAt {j i : Nat} {e : E} {n : Int} {xs : List PyData} {y : PyData} (h : (evA C e).o ρ k = some (.int n, k1)) (h2 : ρ[i]? = some (some (.own xs))) (h3 : 0 ≤ n ∧ n < xs.length ∧ n < 1000000 ∧ i ≠ j) (h4 : xs[n.toNat]? = some y) :
    evSs C (.cons (.popAt j i e) ss) ρ k = evSs C ss ((ρ.set i (some (.own (xs.eraseIdx n.toNat)))).set j (some (.d y))) k1 := by
  simp only [evSs, evS, h, h2]
  rw [if_pos h3]
  simp only [h4]
/-- a value as an operand, as a test -/
theorem o_v {f : Cm DV} {x : DV} {d : PyData} (h : f ρ k = some (x, k1)) (hd : x.dat = some d) : (smV f).o ρ k = some (d, k1) := by simp only [smV, Cm.bnd, Cm.lift, h, hd]
theorem src_v {m : Sm} {x : DV} {d : PyData} {xs : List PyData} (h : m.v ρ k = some (x, k1)) (hd : x.dat = some d) (hi : itemsD d = some xs) (hl : xs.length ≤ sizeLine) : m.src ρ k = some (xs, k1) := by
  simp only [Sm.src, Cm.bnd, Cm.lift, h, hd, hi, Option.bind_some, hl, if_true]
theorem e_call {f : Nat} {es : Es} {xs : List DV} {v : DV} (h : argsL (evAs C es) ρ k = some (xs, k1)) (h2 : C.cl f xs k1 = some (v, k2)) : (evA C (.call f es)).v ρ k = some (v, k2) := by
  simp only [evA, smV, Cm.bnd, h, callM, h2]
theorem e_comp {elt : E} {tg : Tg} {src : E} {xs ys : List PyData} (h : (evA C src).src ρ k = some (xs, k1)) (h2 : compL tg (evA C elt).v (.ret true) xs ρ k1 = some (ys, k2)) : (evA C (.comp elt tg src)).v ρ k = some (.own ys, k2) := by
  simp only [evA, smV, Cm.bnd, h, h2]; rfl
theorem e_compIf {elt c : E} {tg : Tg} {src : E} {xs ys : List PyData} (h : (evA C src).src ρ k = some (xs, k1)) (h2 : compL tg (evA C elt).v (evA C c).t xs ρ k1 = some (ys, k2)) : (evA C (.compIf elt tg src c)).v ρ k = some (.own ys, k2) := by
  simp only [evA, smV, Cm.bnd, Cm.ret, h, h2]
theorem boolsD_map : ∀ bs : List Bool, boolsD (bs.map .bool) = some bs
  | [] => rfl
  | b :: r => by rw [List.map_cons, boolsD, boolsD_map r]
/-- one call an item, the deck untouched -/
theorem comp_map {tg : Nat} {e : Cm DV} {f : PyData → PyData} {ρ : TA.Env} {k : OD} : ∀ (xs : List PyData), (∀ x ∈ xs, e ((wipeE ρ [tg]).set tg (some (.d x))) k = some (.d (f x), k)) → compL (.one tg) e (.ret true) xs ρ k = some (xs.map f, k)
  | [], _ => rfl
  | x :: xs, h => by
    rw [compL]
    simp only [setTg, Tg.slots]
    rw [show (Cm.ret true : Cm Bool) (((wipeE ρ [tg]).set tg (some (.d x)))) k = some (true, k) from rfl]
    simp only [h x List.mem_cons_self, DV.dat, comp_map xs fun y hy => h y (List.mem_cons_of_mem _ hy), List.map_cons]
/-- what passes, the deck untouched -/
theorem comp_filter {tg : Nat} {e : Cm DV} {c : Cm Bool} {f : PyData → Bool} {ρ : TA.Env} {k : OD} : ∀ (xs : List PyData), (∀ x ∈ xs, c ((wipeE ρ [tg]).set tg (some (.d x))) k = some (f x, k) ∧ e ((wipeE ρ [tg]).set tg (some (.d x))) k = some (.d x, k)) → compL (.one tg) e c xs ρ k = some (xs.filter f, k)
  | [], _ => rfl
  | x :: xs, h => by
    rw [compL]
    simp only [setTg, Tg.slots]
    rw [(h x List.mem_cons_self).1]
    have ih := comp_filter xs fun y hy => h y (List.mem_cons_of_mem _ hy)
    cases hb : f x with
    | false => simp only [List.filter_cons, hb]; exact ih
    | true =>
      simp only [(h x List.mem_cons_self).2, DV.dat, ih, List.filter_cons, hb, if_true]
section
variable {a b c : E} {es : Es} {x y z : PyData} {k3 : OD} {A B : Sm} {l : List Sm}
theorem e_cmpT {op : CmpOp} {r : Bool} (h1 : (evA C a).o ρ k = some (x, k1)) (h2 : (evA C b).o ρ k1 = some (y, k2)) (h3 : cmpD op x y = some r) : (evA C (.cmp op a b)).t ρ k = some (r, k2) := by simp only [evA, smB, Cm.bnd, Cm.lift, h1, h2, h3]
theorem e_cmpV {op : CmpOp} {r : Bool} (h1 : (evA C a).o ρ k = some (x, k1)) (h2 : (evA C b).o ρ k1 = some (y, k2)) (h3 : cmpD op x y = some r) : (evA C (.cmp op a b)).v ρ k = some (.d (.bool r), k2) := by simp only [evA, smB, Cm.bnd, Cm.lift, Cm.ret, h1, h2, h3]
theorem e_bin {op : Operator} {r : DV} (h1 : (evA C a).o ρ k = some (x, k1)) (h2 : (evA C b).o ρ k1 = some (y, k2)) (h3 : binD op x y = some r) : (evA C (.bin op a b)).v ρ k = some (r, k2) := by simp only [evA, smV, Cm.bnd, Cm.lift, h1, h2, h3]
theorem e_binO {op : Operator} {r : DV} {d : PyData} (h1 : (evA C a).o ρ k = some (x, k1)) (h2 : (evA C b).o ρ k1 = some (y, k2)) (h3 : binD op x y = some r) (h4 : r.dat = some d) : (evA C (.bin op a b)).o ρ k = some (d, k2) := by simp only [evA, smV, Cm.bnd, Cm.lift, h1, h2, h3, h4]
theorem e_idx (h1 : (evA C a).o ρ k = some (x, k1)) (h2 : (evA C b).o ρ k1 = some (y, k2)) (h3 : idxD x y = some z) : (evA C (.idx a b)).v ρ k = some (.d z, k2) := by simp only [evA, smV, Cm.bnd, Cm.lift, h1, h2, h3, Option.map_some]
theorem e_idxO (h1 : (evA C a).o ρ k = some (x, k1)) (h2 : (evA C b).o ρ k1 = some (y, k2)) (h3 : idxD x y = some z) : (evA C (.idx a b)).o ρ k = some (z, k2) := o_v (e_idx h1 h2 h3) rfl
theorem e_callO {f : Nat} {xs : List DV} {v : DV} {d : PyData} (h : argsL (evAs C es) ρ k = some (xs, k1)) (h2 : C.cl f xs k1 = some (v, k2)) (h3 : v.dat = some d) : (evA C (.call f es)).o ρ k = some (d, k2) := o_v (e_call h h2) h3
theorem e_callT {f : Nat} {xs : List DV} {v : DV} {d : PyData} {r : Bool} (h : argsL (evAs C es) ρ k = some (xs, k1)) (h2 : C.cl f xs k1 = some (v, k2)) (h3 : v.dat = some d) (h4 : truthD d = some r) : (evA C (.call f es)).t ρ k = some (r, k2) := by
  simp only [evA, smV, Cm.bnd, Cm.lift, h, callM, h2, h3, Option.bind_some, h4]
theorem e_notT {r : Bool} (h : (evA C a).t ρ k = some (r, k1)) : (evA C (.not a)).t ρ k = some (!r, k1) := by simp only [evA, Cm.bnd, Cm.ret, h]
theorem e_isiT {t : Ty} (h : (evA C a).o ρ k = some (x, k1)) : (evA C (.isi a [t])).t ρ k = some (isTy x t, k1) := by simp only [evA, smB, Cm.bnd, Cm.ret, h, List.any_cons, List.any_nil, Bool.or_false]
theorem e_blt1 {f : TA.B} {r : DV} (h : (evA C a).o ρ k = some (x, k1)) (h2 : blt1 f x = some r) : (evA C (.blt f (.cons a .nil))).v ρ k = some (r, k1) := by simp only [evA, evAs, smV, Cm.bnd, Cm.lift, Cm.ret, opdsL, h, bltD, h2]
theorem e_blt1O {f : TA.B} {r : DV} {d : PyData} (h : (evA C a).o ρ k = some (x, k1)) (h2 : blt1 f x = some r) (h3 : r.dat = some d) : (evA C (.blt f (.cons a .nil))).o ρ k = some (d, k1) := o_v (e_blt1 h h2) h3
theorem e_ifeT {v : DV} (h : (evA C a).t ρ k = some (true, k1)) (h2 : (evA C b).v ρ k1 = some (v, k2)) : (evA C (.ife a b c)).v ρ k = some (v, k2) := by simp only [evA, smV, Cm.bnd, h, if_true, h2]
theorem e_ifeF {v : DV} (h : (evA C a).t ρ k = some (false, k1)) (h2 : (evA C c).v ρ k1 = some (v, k2)) : (evA C (.ife a b c)).v ρ k = some (v, k2) := by simp only [evA, smV, Cm.bnd, h, Bool.false_eq_true, if_false, h2]
theorem bt_stop {o : Bool} (h : A.t ρ k = some (!o, k1)) : bopT o (A :: B :: l) ρ k = some (!o, k1) := by
  cases o <;> simp [bopT, Cm.bnd, h, Cm.ret]
theorem bt_next {o r : Bool} (h : A.t ρ k = some (o, k1)) (h2 : bopT o (B :: l) ρ k1 = some (r, k2)) : bopT o (A :: B :: l) ρ k = some (r, k2) := by
  cases o <;> simp [bopT, Cm.bnd, h, h2]
theorem bv_stop {o : Bool} {v : DV} {d : PyData} (h : A.v ρ k = some (v, k1)) (h2 : v.dat = some d) (h3 : truthD d = some (!o)) : bopV o (A :: B :: l) ρ k = some (v.fz, k1) := by
  cases o <;> simp [bopV, Cm.bnd, Cm.lift, h, h2, h3, Cm.ret]
theorem bv_next {o : Bool} {v w : DV} {d : PyData} (h : A.v ρ k = some (v, k1)) (h2 : v.dat = some d) (h3 : truthD d = some o) (h4 : bopV o (B :: l) ρ k1 = some (w, k2)) : bopV o (A :: B :: l) ρ k = some (w, k2) := by
  cases o <;> simp [bopV, Cm.bnd, Cm.lift, h, h2, h3, h4]
theorem bv_one {o : Bool} {v : DV} (h : A.v ρ k = some (v, k1)) : bopV o [A] ρ k = some (v.fz, k1) := by simp only [bopV, Cm.bnd, Cm.ret, h]
theorem a_cons {v : DV} {vs : List DV} (h : A.v ρ k = some (v, k1)) (h2 : argsL l ρ k1 = some (vs, k2)) : argsL (A :: l) ρ k = some (v.fz :: vs, k2) := by simp only [argsL, Cm.bnd, Cm.ret, h, h2]
theorem d_cons {v : DV} {d : PyData} {ds : List PyData} (h : A.v ρ k = some (v, k1)) (h1 : v.dat = some d) (h2 : datsL l ρ k1 = some (ds, k2)) : datsL (A :: l) ρ k = some (d :: ds, k2) := by simp only [datsL, Cm.bnd, Cm.ret, Cm.lift, h, h1, h2]
theorem v_cons {v : DV} {vs : List DV} (h : A.v ρ k = some (v, k1)) (h2 : valsL l ρ k1 = some (vs, k2)) : valsL (A :: l) ρ k = some (v :: vs, k2) := by simp only [valsL, Cm.bnd, Cm.ret, h, h2]
theorem e_tup {ds : List PyData} (h : datsL (evAs C es) ρ k = some (ds, k1)) : (evA C (.tup es)).v ρ k = some (.d (.tuple ds), k1) := by simp only [evA, smV, Cm.bnd, Cm.ret, h]
theorem e_lst {ds : List PyData} (h : datsL (evAs C es) ρ k = some (ds, k1)) : (evA C (.lst es)).v ρ k = some (.own ds, k1) := by simp only [evA, smV, Cm.bnd, Cm.ret, h]
end
end TM

set_option maxHeartbeats 4000000
/-! The small language run by rewriting: each rule looks at the first step alone. -/
namespace TM
open PySem TA
def bO {α β : Type} (r : Option (α × OD)) (f : α → OD → Option β) : Option β := match r with
  | none => none
  | some (a, k) => f a k
def lO {α : Type} (o : Option α) (k : OD) : Option (α × OD) := match o with
  | none => none
  | some a => some (a, k)
def iB {α : Type} (b : Bool) (x y : α) : α := match b with
  | true => x
  | false => y
section
variable {α β : Type} {a : α} {k : OD} {f : α → OD → Option β} {x y : α} {g : Cs} {ρ : TA.Env} {v : DV}
theorem bO_some : bO (some (a, k)) f = f a k := rfl
theorem bO_none : bO (none : Option (α × OD)) f = none := rfl
theorem lO_some : lO (some a) k = some (a, k) := rfl
theorem lO_none : lO (none : Option α) k = none := rfl
theorem iB_t : iB true x y = x := rfl
theorem iB_f : iB false x y = y := rfl
theorem thn_nx : thn (some (.nx ρ, k)) g = g ρ k := rfl
theorem thn_rt : thn (some (.rt v, k)) g = some (.rt v, k) := rfl
theorem thn_bk : thn (some (.bk ρ, k)) g = some (.bk ρ, k) := rfl
theorem thn_ct : thn (some (.ct ρ, k)) g = some (.ct ρ, k) := rfl
theorem endOf_rt : endOf (some (.rt v, k)) = some (v, k) := rfl
theorem endOf_nx : endOf (some (.nx ρ, k)) = some (.d .none, k) := rfl
end

def idxV (x y : PyData) : Option DV := (idxD x y).map .d
def slAV (x y : PyData) : Option DV := (intD y).bind fun i => slD x (some i) none
def slBV (x y : PyData) : Option DV := (intD y).bind fun i => slD x none (some i)
def rngV (x : PyData) : Option DV := (intD x).bind fun n => if rngOk n && decide (n ≤ 100000) then some (.d (.list (rngL 0 n.toNat))) else none
theorem bnd_bO {α β : Type} {f : Cm α} {g : α → Cm β} {ρ : TA.Env} {k : OD} : f.bnd g ρ k = bO (f ρ k) fun a k1 => g a ρ k1 := by
  unfold Cm.bnd bO
  cases f ρ k <;> rfl
/-! ### what comes next, as words (so that rewriting looks at the first step alone) -/
def kLift {α β : Type} (f : α → Option β) (x : α) (k : OD) : Option (β × OD) := lO (f x) k
def kOk {α β : Type} (f : α → β) (x : α) (k : OD) : Option (β × OD) := some (f x, k)
def kO2 {β : Type} (C : TA.Ctx) (b : E) (ρ : TA.Env) (f : PyData → PyData → Option β) (x : PyData) (k : OD) : Option (β × OD) := bO ((evA C b).o ρ k) (kLift (f x))
def kIte (C : TA.Ctx) (x y : Ss) (ρ : TA.Env) (b : Bool) (k : OD) : Option (Fl × OD) := iB b (evSs C x ρ k) (evSs C y ρ k)
def kIfe (C : TA.Ctx) (x y : E) (ρ : TA.Env) (b : Bool) (k : OD) : Option (DV × OD) := iB b ((evA C x).v ρ k) ((evA C y).v ρ k)
def kCall (C : TA.Ctx) (n : Nat) (xs : List DV) (k : OD) : Option (DV × OD) := C.cl n xs k
def kCallk (C : TA.Ctx) (n i : Nat) (ys : List DV) (k : OD) : Option (DV × OD) := bO (lO (C.kw[i]?) k) fun pm k2 => C.cl n (permL pm ys) k2
def kArgs2 (x : DV) (xs : List DV) (k : OD) : Option (List DV × OD) := some (x.fz :: xs, k)
def kArgs (l : List Sm) (ρ : TA.Env) (x : DV) (k : OD) : Option (List DV × OD) := bO (argsL l ρ k) (kArgs2 x)
def kVals2 (x : DV) (xs : List DV) (k : OD) : Option (List DV × OD) := some (x :: xs, k)
def kVals (l : List Sm) (ρ : TA.Env) (x : DV) (k : OD) : Option (List DV × OD) := bO (valsL l ρ k) (kVals2 x)
def kOpd2 (x : PyData) (xs : List PyData) (k : OD) : Option (List PyData × OD) := some (x :: xs, k)
def kOpd (l : List Sm) (ρ : TA.Env) (x : PyData) (k : OD) : Option (List PyData × OD) := bO (opdsL l ρ k) (kOpd2 x)
def kDat2 (l : List Sm) (ρ : TA.Env) (d : PyData) (k : OD) : Option (List PyData × OD) := bO (datsL l ρ k) (kOpd2 d)
def kDat (l : List Sm) (ρ : TA.Env) (x : DV) (k : OD) : Option (List PyData × OD) := bO (lO x.dat k) (kDat2 l ρ)
def kBV2 (o : Bool) (l : List Sm) (ρ : TA.Env) (x : DV) (b : Bool) (k : OD) : Option (DV × OD) := iB (b == o) (bopV o l ρ k) (some (x.fz, k))
def kBV (o : Bool) (l : List Sm) (ρ : TA.Env) (x : DV) (k : OD) : Option (DV × OD) := bO (lO (x.dat.bind truthD) k) (kBV2 o l ρ x)
def kBT (o : Bool) (l : List Sm) (ρ : TA.Env) (b : Bool) (k : OD) : Option (Bool × OD) := iB (b == o) (bopT o l ρ k) (some (b, k))
def kComp (tg : Tg) (e : Cm DV) (c : Cm Bool) (ρ : TA.Env) (xs : List PyData) (k : OD) : Option (DV × OD) := bO (compL tg e c xs ρ k) (kOk .own)
def kDict2 (x : PyData) (y : DV) (k : OD) : Option (DV × OD) := lO (y.dat.map fun d => .d (.dict [(x, d)])) k
def kDict (C : TA.Ctx) (b : E) (ρ : TA.Env) (x : PyData) (k : OD) : Option (DV × OD) := bO (lO (keyOk x) k) fun _ k2 => bO ((evA C b).v ρ k2) (kDict2 x)
def srcL (xs : List PyData) : Option (List PyData) := if xs.length ≤ sizeLine then some xs else none
def kSrc (s : DV) (k : OD) : Option (List PyData × OD) := bO (lO (s.dat.bind itemsD) k) (kLift srcL)
def kChain3 (C : TA.Ctx) (c : E) (o2 : CmpOp) (ρ : TA.Env) (y : PyData) (r : Bool) (k : OD) : Option (Bool × OD) := iB r (bO ((evA C c).o ρ k) (kLift (cmpD o2 y))) (some (false, k))
def kChain2 (C : TA.Ctx) (c : E) (o1 o2 : CmpOp) (ρ : TA.Env) (x y : PyData) (k : OD) : Option (Bool × OD) := bO (lO (cmpD o1 x y) k) (kChain3 C c o2 ρ y)
def kChain (C : TA.Ctx) (b c : E) (o1 o2 : CmpOp) (ρ : TA.Env) (x : PyData) (k : OD) : Option (Bool × OD) := bO ((evA C b).o ρ k) (kChain2 C c o1 o2 ρ x)
def kSet (i : Nat) (ρ : TA.Env) (x : DV) (k : OD) : Option (Fl × OD) := some (.nx (ρ.set i (some x)), k)
def kPar (is : List Nat) (ρ : TA.Env) (xs : List DV) (k : OD) : Option (Fl × OD) := bO (lO (setAll is xs ρ) k) (kOk .nx)
def kUnp (is : List Nat) (ρ : TA.Env) (x : DV) (k : OD) : Option (Fl × OD) := match x with
  | .d (.tuple xs) => bO (lO (setMany is xs ρ) k) (kOk .nx)
  | _ => none
def kFor (C : TA.Ctx) (tg : Tg) (b : Ss) (ρ : TA.Env) (xs : List PyData) (k : OD) : Option (Fl × OD) := forL tg (evSs C b) xs ρ k
def kApp (i : Nat) (ρ : TA.Env) (x : DV) (k : OD) : Option (Fl × OD) := match x.dat, ρ[i]? with
  | some d, some (some (.own xs)) => if xs.length < sizeLine then some (.nx (ρ.set i (some (.own (xs ++ [d])))), k) else none
  | _, _ => none
section
variable {α β : Type} {C : TA.Ctx} {a b c : E} {x y : Ss} {ρ : TA.Env} {k : OD} {l : List Sm} {d e : PyData} {v : DV}
theorem kLift_a {f : α → Option β} {x : α} : kLift f x k = lO (f x) k := rfl
theorem kOk_a {f : α → β} {x : α} : kOk f x k = some (f x, k) := rfl
theorem kO2_a {f : PyData → PyData → Option β} : kO2 C b ρ f d k = bO ((evA C b).o ρ k) (kLift (f d)) := rfl
theorem kIte_t : kIte C x y ρ true k = evSs C x ρ k := rfl
theorem kIte_f : kIte C x y ρ false k = evSs C y ρ k := rfl
theorem kIfe_t : kIfe C a b ρ true k = (evA C a).v ρ k := rfl
theorem kIfe_f : kIfe C a b ρ false k = (evA C b).v ρ k := rfl
theorem kCall_a {n : Nat} {xs : List DV} : kCall C n xs k = C.cl n xs k := rfl
theorem kArgs_a : kArgs l ρ v k = bO (argsL l ρ k) (kArgs2 v) := rfl
theorem kArgs2_a {xs : List DV} : kArgs2 v xs k = some (v.fz :: xs, k) := rfl
theorem kVals_a : kVals l ρ v k = bO (valsL l ρ k) (kVals2 v) := rfl
theorem kVals2_a {xs : List DV} : kVals2 v xs k = some (v :: xs, k) := rfl
theorem kOpd_a : kOpd l ρ d k = bO (opdsL l ρ k) (kOpd2 d) := rfl
theorem kOpd2_a {xs : List PyData} : kOpd2 d xs k = some (d :: xs, k) := rfl
theorem kDat_a : kDat l ρ v k = bO (lO v.dat k) (kDat2 l ρ) := rfl
theorem kDat2_a : kDat2 l ρ d k = bO (datsL l ρ k) (kOpd2 d) := rfl
theorem kBV_a {o : Bool} : kBV o l ρ v k = bO (lO (v.dat.bind truthD) k) (kBV2 o l ρ v) := rfl
theorem kBV2_tt : kBV2 true l ρ v true k = bopV true l ρ k := rfl
theorem kBV2_ff : kBV2 false l ρ v false k = bopV false l ρ k := rfl
theorem kBV2_tf : kBV2 true l ρ v false k = some (v.fz, k) := rfl
theorem kBV2_ft : kBV2 false l ρ v true k = some (v.fz, k) := rfl
theorem kBT_tt : kBT true l ρ true k = bopT true l ρ k := rfl
theorem kBT_ff : kBT false l ρ false k = bopT false l ρ k := rfl
theorem kBT_tf : kBT true l ρ false k = some (false, k) := rfl
theorem kBT_ft : kBT false l ρ true k = some (true, k) := rfl
theorem kComp_a {tg : Tg} {f : Cm DV} {g : Cm Bool} {xs : List PyData} : kComp tg f g ρ xs k = bO (compL tg f g xs ρ k) (kOk .own) := rfl
theorem kSrc_a : kSrc v k = bO (lO (v.dat.bind itemsD) k) (kLift srcL) := rfl
theorem kChain_a {o1 o2 : CmpOp} : kChain C b c o1 o2 ρ d k = bO ((evA C b).o ρ k) (kChain2 C c o1 o2 ρ d) := rfl
theorem kChain2_a {o1 o2 : CmpOp} : kChain2 C c o1 o2 ρ d e k = bO (lO (cmpD o1 d e) k) (kChain3 C c o2 ρ e) := rfl
theorem kChain3_t {o2 : CmpOp} : kChain3 C c o2 ρ e true k = bO ((evA C c).o ρ k) (kLift (cmpD o2 e)) := rfl
theorem kChain3_f {o2 : CmpOp} : kChain3 C c o2 ρ e false k = some (false, k) := rfl
theorem kSet_a {i : Nat} : kSet i ρ v k = some (.nx (ρ.set i (some v)), k) := rfl
theorem kPar_a {is : List Nat} {xs : List DV} : kPar is ρ xs k = bO (lO (setAll is xs ρ) k) (kOk .nx) := rfl
theorem kUnp_a {is : List Nat} {xs : List PyData} : kUnp is ρ (.d (.tuple xs)) k = bO (lO (setMany is xs ρ) k) (kOk .nx) := rfl
theorem kFor_a {tg : Tg} {b : Ss} {xs : List PyData} : kFor C tg b ρ xs k = forL tg (evSs C b) xs ρ k := rfl
end
def gV (o : Option (Option DV)) (k : OD) : Option (DV × OD) := match o with
  | some (some (.d x)) => some (.d x, k)
  | some (some .dk) => some (.dk, k)
  | _ => none
def gO (o : Option (Option DV)) (k : OD) : Option (PyData × OD) := match o with
  | some (some (.d x)) => some (x, k)
  | some (some (.own xs)) => some (.list xs, k)
  | _ => none
theorem gV_d {x : PyData} {k : OD} : gV (some (some (.d x))) k = some (.d x, k) := rfl
theorem gV_dk {k : OD} : gV (some (some .dk)) k = some (.dk, k) := rfl
theorem gO_d {x : PyData} {k : OD} : gO (some (some (.d x))) k = some (x, k) := rfl
theorem gO_o {x : List PyData} {k : OD} : gO (some (some (.own x))) k = some (.list x, k) := rfl
section
variable {C : TA.Ctx} {ρ : TA.Env} {k : OD} {a b c t : E} {es : Es} {ss : Ss} {A B : Sm} {l : List Sm} {i j n : Nat}
theorem var_v : (evA C (.var i)).v ρ k = gV ρ[i]? k := by
  show varV i ρ k = _
  unfold varV gV
  split <;> simp_all
theorem var_o : (evA C (.var i)).o ρ k = gO ρ[i]? k := by
  show varO i ρ k = _
  unfold varO gO
  split <;> simp_all
theorem var_t : (evA C (.var i)).t ρ k = bO (gO ρ[i]? k) (kLift truthD) := by
  show ((varO i).bnd fun x => Cm.lift (truthD x)) ρ k = _
  rw [bnd_bO, show varO i ρ k = gO ρ[i]? k from var_o (C := C)]
  rfl
/-- a value as an operand, as a test -/
def oV (r : Option (DV × OD)) : Option (PyData × OD) := bO r (kLift DV.dat)
def tV (r : Option (DV × OD)) : Option (Bool × OD) := bO r (kLift fun x => x.dat.bind truthD)
def vB (r : Option (Bool × OD)) : Option (DV × OD) := bO r (kOk fun x => .d (.bool x))
def oB (r : Option (Bool × OD)) : Option (PyData × OD) := bO r (kOk .bool)
theorem oV_d {x : PyData} : oV (some (.d x, k)) = some (x, k) := rfl
theorem oV_own {x : List PyData} : oV (some (.own x, k)) = some (.list x, k) := rfl
theorem tV_d {x : PyData} : tV (some (.d x, k)) = lO (truthD x) k := rfl
theorem tV_own {x : List PyData} : tV (some (.own x, k)) = some (!x.isEmpty, k) := rfl
theorem vB_s {x : Bool} : vB (some (x, k)) = some (.d (.bool x), k) := rfl
theorem oB_s {x : Bool} : oB (some (x, k)) = some (.bool x, k) := rfl
theorem non_v : (evA C .non).v ρ k = some (.d .none, k) := rfl
theorem non_o : (evA C .non).o ρ k = some (.none, k) := rfl
theorem bl_v {b : Bool} : (evA C (.bl b)).v ρ k = some (.d (.bool b), k) := rfl
theorem bl_o {b : Bool} : (evA C (.bl b)).o ρ k = some (.bool b, k) := rfl
theorem bl_t {b : Bool} : (evA C (.bl b)).t ρ k = some (b, k) := rfl
theorem int_v {b : Int} : (evA C (.int b)).v ρ k = some (.d (.int b), k) := rfl
theorem int_o {b : Int} : (evA C (.int b)).o ρ k = some (.int b, k) := rfl
theorem str_v {b : Str} : (evA C (.str b)).v ρ k = some (.d (.str b), k) := rfl
theorem str_o {b : Str} : (evA C (.str b)).o ρ k = some (.str b, k) := rfl
theorem glb_v : (evA C (.glb n)).v ρ k = lO (C.gl[n]?.map .d) k := rfl
theorem glb_o : (evA C (.glb n)).o ρ k = oV (lO (C.gl[n]?.map .d) k) := rfl
theorem tup_v : (evA C (.tup es)).v ρ k = bO (datsL (evAs C es) ρ k) (kOk fun xs => .d (.tuple xs)) := rfl
theorem tup_o : (evA C (.tup es)).o ρ k = oV ((evA C (.tup es)).v ρ k) := rfl
theorem lst_v : (evA C (.lst es)).v ρ k = bO (datsL (evAs C es) ρ k) (kOk .own) := rfl
theorem lst_o : (evA C (.lst es)).o ρ k = oV ((evA C (.lst es)).v ρ k) := rfl
theorem bin_v {op : Operator} : (evA C (.bin op a b)).v ρ k = bO ((evA C a).o ρ k) (kO2 C b ρ (binD op)) := rfl
theorem bin_o {op : Operator} : (evA C (.bin op a b)).o ρ k = oV ((evA C (.bin op a b)).v ρ k) := rfl
theorem bin_t {op : Operator} : (evA C (.bin op a b)).t ρ k = tV ((evA C (.bin op a b)).v ρ k) := rfl
theorem cmp_t {op : CmpOp} : (evA C (.cmp op a b)).t ρ k = bO ((evA C a).o ρ k) (kO2 C b ρ (cmpD op)) := rfl
theorem cmp_v {op : CmpOp} : (evA C (.cmp op a b)).v ρ k = vB ((evA C (.cmp op a b)).t ρ k) := rfl
theorem cmp_o {op : CmpOp} : (evA C (.cmp op a b)).o ρ k = oB ((evA C (.cmp op a b)).t ρ k) := rfl
theorem isN_t : (evA C (.isN a)).t ρ k = bO ((evA C a).o ρ k) (kOk isNone) := rfl
theorem isN_v : (evA C (.isN a)).v ρ k = vB ((evA C (.isN a)).t ρ k) := rfl
theorem isi_t {ts : List Ty} : (evA C (.isi a ts)).t ρ k = bO ((evA C a).o ρ k) (kOk fun x => ts.any (isTy x)) := rfl
theorem isi_v {ts : List Ty} : (evA C (.isi a ts)).v ρ k = vB ((evA C (.isi a ts)).t ρ k) := rfl
theorem not_t : (evA C (.not a)).t ρ k = bO ((evA C a).t ρ k) (kOk not) := rfl
theorem bop_v {o : Bool} : (evA C (.bop o es)).v ρ k = bopV o (evAs C es) ρ k := rfl
theorem bop_o {o : Bool} : (evA C (.bop o es)).o ρ k = oV (bopV o (evAs C es) ρ k) := rfl
theorem bop_t {o : Bool} : (evA C (.bop o es)).t ρ k = bopT o (evAs C es) ρ k := rfl
theorem ife_v : (evA C (.ife t a b)).v ρ k = bO ((evA C t).t ρ k) (kIfe C a b ρ) := by
  show Cm.bnd _ _ ρ k = _
  rw [bnd_bO]
  congr 1
  funext c k1
  cases c <;> rfl
theorem ife_o : (evA C (.ife t a b)).o ρ k = oV ((evA C (.ife t a b)).v ρ k) := rfl
theorem idx_v : (evA C (.idx a b)).v ρ k = bO ((evA C a).o ρ k) (kO2 C b ρ idxV) := rfl
theorem idx_o : (evA C (.idx a b)).o ρ k = oV ((evA C (.idx a b)).v ρ k) := rfl
theorem slA_v : (evA C (.slA a b)).v ρ k = bO ((evA C a).o ρ k) (kO2 C b ρ slAV) := rfl
theorem slA_o : (evA C (.slA a b)).o ρ k = oV ((evA C (.slA a b)).v ρ k) := rfl
theorem slB_v : (evA C (.slB a b)).v ρ k = bO ((evA C a).o ρ k) (kO2 C b ρ slBV) := rfl
theorem slB_o : (evA C (.slB a b)).o ρ k = oV ((evA C (.slB a b)).v ρ k) := rfl
theorem call_v : (evA C (.call n es)).v ρ k = bO (argsL (evAs C es) ρ k) (kCall C n) := rfl
theorem call_o : (evA C (.call n es)).o ρ k = oV ((evA C (.call n es)).v ρ k) := rfl
theorem call_t : (evA C (.call n es)).t ρ k = tV ((evA C (.call n es)).v ρ k) := rfl
theorem callk_v : (evA C (.callk n i es)).v ρ k = bO (argsL (evAs C es) ρ k) (kCallk C n i) := rfl
theorem blt_v {f : TA.B} : (evA C (.blt f es)).v ρ k = bO (opdsL (evAs C es) ρ k) (kLift (bltD f)) := rfl
theorem blt_o {f : TA.B} : (evA C (.blt f es)).o ρ k = oV ((evA C (.blt f es)).v ρ k) := rfl
theorem comp_v {tg : Tg} : (evA C (.comp a tg b)).v ρ k = bO ((evA C b).src ρ k) (kComp tg (evA C a).v (.ret true) ρ) := rfl
theorem comp_o {tg : Tg} : (evA C (.comp a tg b)).o ρ k = oV ((evA C (.comp a tg b)).v ρ k) := rfl
theorem compIf_v {tg : Tg} : (evA C (.compIf a tg b c)).v ρ k = bO ((evA C b).src ρ k) (kComp tg (evA C a).v (evA C c).t ρ) := rfl
theorem compIf_o {tg : Tg} : (evA C (.compIf a tg b c)).o ρ k = oV ((evA C (.compIf a tg b c)).v ρ k) := rfl
theorem dict0_v : (evA C .dict0).v ρ k = some (.d (.dict []), k) := rfl
theorem dict1_v : (evA C (.dict1 a b)).v ρ k = bO ((evA C a).o ρ k) (kDict C b ρ) := rfl
theorem src_eq {m : Sm} : m.src ρ k = bO (m.v ρ k) kSrc := rfl
theorem rng1_v : (evA C (.rng1 a)).v ρ k = bO ((evA C a).o ρ k) (kLift rngV) := rfl
theorem zip_v {s : Bool} : (evA C (.zip s a b)).v ρ k = bO (datsL [evA C a, evA C b] ρ k) (kLift (zipD s)) := rfl
theorem chain_t {o1 o2 : CmpOp} : (evA C (.chain o1 o2 a b c)).t ρ k = bO ((evA C a).o ρ k) (kChain C b c o1 o2 ρ) := by
  show Cm.bnd _ _ ρ k = _
  rw [bnd_bO]
  congr 1
  funext x k1
  show Cm.bnd _ _ ρ k1 = _
  rw [bnd_bO]
  show _ = bO _ _
  congr 1
  funext y k2
  show Cm.bnd _ _ ρ k2 = _
  rw [bnd_bO]
  show _ = bO _ _
  congr 1
  funext r k3
  cases r
  · rfl
  · show Cm.bnd _ _ ρ k3 = _
    rw [bnd_bO]
    rfl
theorem as_nl : argsL [] ρ k = some ([], k) := rfl
theorem as_cs : argsL (A :: l) ρ k = bO (A.v ρ k) (kArgs l ρ) := rfl
theorem ds_nl : datsL [] ρ k = some ([], k) := rfl
theorem ds_cs : datsL (A :: l) ρ k = bO (A.v ρ k) (kDat l ρ) := rfl
theorem os_nl : opdsL [] ρ k = some ([], k) := rfl
theorem os_cs : opdsL (A :: l) ρ k = bO (A.o ρ k) (kOpd l ρ) := rfl
theorem vs_nl : valsL [] ρ k = some ([], k) := rfl
theorem vs_cs : valsL (A :: l) ρ k = bO (A.v ρ k) (kVals l ρ) := rfl
theorem es_nl : evAs C .nil = [] := rfl
theorem es_cs : evAs C (.cons a es) = evA C a :: evAs C es := rfl
theorem bv_1 {o : Bool} : bopV o [A] ρ k = bO (A.v ρ k) (kOk DV.fz) := rfl
theorem bv_2 {o : Bool} : bopV o (A :: B :: l) ρ k = bO (A.v ρ k) (kBV o (B :: l) ρ) := by
  show Cm.bnd _ _ ρ k = _
  rw [bnd_bO]
  congr 1
  funext x k1
  show Cm.bnd _ _ ρ k1 = _
  rw [bnd_bO]
  show _ = bO _ _
  congr 1
  funext b k2
  cases b <;> cases o <;> rfl
theorem bt_1 {o : Bool} : bopT o [A] ρ k = A.t ρ k := rfl
theorem bt_2 {o : Bool} : bopT o (A :: B :: l) ρ k = bO (A.t ρ k) (kBT o (B :: l) ρ) := by
  show Cm.bnd _ _ ρ k = _
  rw [bnd_bO]
  congr 1
  funext b k1
  cases b <;> cases o <;> rfl
theorem dkTot_v {q : Dk} (h : ρ[i]? = some (some .dk)) : (evA C (.dkTot i)).v ρ (some q) = some (.d (.int q.tot), some q) := by simp only [evA, smV, dkOf, h]
theorem s_nil : evSs C .nil ρ k = some (.nx ρ, k) := rfl
theorem s_cons {s : S} : evSs C (.cons s ss) ρ k = thn (evS C s ρ k) (evSs C ss) := by
  simp only [evSs, thn]
  all_goals (cases h : evS C s ρ k with
  | none => rfl
  | some p =>
    obtain ⟨f, k1⟩ := p
    cases f <;> rfl)
theorem s_set : evS C (.set i a) ρ k = bO ((evA C a).v ρ k) (kSet i ρ) := by
  simp only [evS]
  cases h : (evA C a).v ρ k with
  | none => rfl
  | some p => rfl
theorem s_setLc : evS C (.setLc i a) ρ k = bO ((evA C a).v ρ k) (kSet i ρ) := by
  simp only [evS]
  cases h : (evA C a).v ρ k with
  | none => rfl
  | some p => rfl
theorem s_par {is : List Nat} : evS C (.par is es) ρ k = bO (valsL (evAs C es) ρ k) (kPar is ρ) := by
  simp only [evS]
  cases h : valsL (evAs C es) ρ k with
  | none => rfl
  | some p =>
    show (match setAll is p.1 ρ with | none => none | some r => some (Fl.nx r, p.2)) = bO (lO (setAll is p.1 ρ) p.2) (kOk Fl.nx)
    cases setAll is p.1 ρ <;> rfl
theorem s_unp {is : List Nat} : evS C (.unp is a) ρ k = bO ((evA C a).v ρ k) (kUnp is ρ) := by
  simp only [evS]
  cases h : (evA C a).v ρ k with
  | none => rfl
  | some p =>
    obtain ⟨x, k1⟩ := p
    cases x with
    | d z =>
      cases z with
      | tuple xs =>
        show (match setMany is xs ρ with | none => none | some r => some (Fl.nx r, k1)) = bO (lO (setMany is xs ρ) k1) (kOk Fl.nx)
        cases setMany is xs ρ <;> rfl
      | _ => rfl
    | _ => rfl
theorem s_ite {x y : Ss} : evS C (.ite t x y) ρ k = bO ((evA C t).t ρ k) (kIte C x y ρ) := by
  simp only [evS]
  cases h : (evA C t).t ρ k with
  | none => rfl
  | some p =>
    obtain ⟨b, k1⟩ := p
    cases b <;> rfl
theorem s_loop {tg : Tg} {b : Ss} : evS C (.loop tg a b) ρ k = bO ((evA C a).src ρ k) (kFor C tg b ρ) := by
  simp only [evS]
  cases h : (evA C a).src ρ k with
  | none => rfl
  | some p => rfl
theorem s_retv {x : DV} (h : ρ[i]? = some (some x)) : evS C (.ret (.var i)) ρ k = some (.rt x, k) := by simp only [evS, h]
theorem s_ret (h : ∀ i, a ≠ .var i) : evS C (.ret a) ρ k = bO ((evA C a).v ρ k) (kOk .rt) := by
  cases a with
  | var i => exact absurd rfl (h i)
  | _ =>
    simp only [evS]
    cases (evA C _).v ρ k with
    | none => rfl
    | some p => rfl
theorem s_frz : evS C (.frz i) ρ k = (match ρ[i]? with
    | some (some (.own xs)) => some (.nx (ρ.set i (some (.d (.list xs)))), k)
    | some (some (.d x)) => some (.nx ρ, k)
    | _ => none) := rfl
theorem s_app : evS C (.app i a) ρ k = bO ((evA C a).v ρ k) (kApp i ρ) := by
  simp only [evS]
  cases h : (evA C a).v ρ k with
  | none => rfl
  | some p => rfl
end
theorem rt_non {C : TA.Ctx} {ρ : TA.Env} {k : OD}  : evS C (.ret .non) ρ k = bO ((evA C .non).v ρ k) (kOk .rt) := s_ret (by intro i h; cases h)
theorem rt_bl {C : TA.Ctx} {ρ : TA.Env} {k : OD} {b : Bool} : evS C (.ret (.bl b)) ρ k = bO ((evA C (.bl b)).v ρ k) (kOk .rt) := s_ret (by intro i h; cases h)
theorem rt_int {C : TA.Ctx} {ρ : TA.Env} {k : OD} {b : Int} : evS C (.ret (.int b)) ρ k = bO ((evA C (.int b)).v ρ k) (kOk .rt) := s_ret (by intro i h; cases h)
theorem rt_str {C : TA.Ctx} {ρ : TA.Env} {k : OD} {b : Str} : evS C (.ret (.str b)) ρ k = bO ((evA C (.str b)).v ρ k) (kOk .rt) := s_ret (by intro i h; cases h)
theorem rt_glb {C : TA.Ctx} {ρ : TA.Env} {k : OD} {b : Nat} : evS C (.ret (.glb b)) ρ k = bO ((evA C (.glb b)).v ρ k) (kOk .rt) := s_ret (by intro i h; cases h)
theorem rt_tup {C : TA.Ctx} {ρ : TA.Env} {k : OD} {b : Es} : evS C (.ret (.tup b)) ρ k = bO ((evA C (.tup b)).v ρ k) (kOk .rt) := s_ret (by intro i h; cases h)
theorem rt_lst {C : TA.Ctx} {ρ : TA.Env} {k : OD} {b : Es} : evS C (.ret (.lst b)) ρ k = bO ((evA C (.lst b)).v ρ k) (kOk .rt) := s_ret (by intro i h; cases h)
theorem rt_bin {C : TA.Ctx} {ρ : TA.Env} {k : OD} {a : Operator} {b c : E} : evS C (.ret (.bin a b c)) ρ k = bO ((evA C (.bin a b c)).v ρ k) (kOk .rt) := s_ret (by intro i h; cases h)
theorem rt_cmp {C : TA.Ctx} {ρ : TA.Env} {k : OD} {a : CmpOp} {b c : E} : evS C (.ret (.cmp a b c)) ρ k = bO ((evA C (.cmp a b c)).v ρ k) (kOk .rt) := s_ret (by intro i h; cases h)
theorem rt_chain {C : TA.Ctx} {ρ : TA.Env} {k : OD} {a b : CmpOp} {c d e : E} : evS C (.ret (.chain a b c d e)) ρ k = bO ((evA C (.chain a b c d e)).v ρ k) (kOk .rt) := s_ret (by intro i h; cases h)
theorem rt_isN {C : TA.Ctx} {ρ : TA.Env} {k : OD} {a : E} : evS C (.ret (.isN a)) ρ k = bO ((evA C (.isN a)).v ρ k) (kOk .rt) := s_ret (by intro i h; cases h)
theorem rt_not {C : TA.Ctx} {ρ : TA.Env} {k : OD} {a : E} : evS C (.ret (.not a)) ρ k = bO ((evA C (.not a)).v ρ k) (kOk .rt) := s_ret (by intro i h; cases h)
theorem rt_bop {C : TA.Ctx} {ρ : TA.Env} {k : OD} {a : Bool} {b : Es} : evS C (.ret (.bop a b)) ρ k = bO ((evA C (.bop a b)).v ρ k) (kOk .rt) := s_ret (by intro i h; cases h)
theorem rt_ife {C : TA.Ctx} {ρ : TA.Env} {k : OD} {a b c : E} : evS C (.ret (.ife a b c)) ρ k = bO ((evA C (.ife a b c)).v ρ k) (kOk .rt) := s_ret (by intro i h; cases h)
theorem rt_idx {C : TA.Ctx} {ρ : TA.Env} {k : OD} {a b : E} : evS C (.ret (.idx a b)) ρ k = bO ((evA C (.idx a b)).v ρ k) (kOk .rt) := s_ret (by intro i h; cases h)
theorem rt_slA {C : TA.Ctx} {ρ : TA.Env} {k : OD} {a b : E} : evS C (.ret (.slA a b)) ρ k = bO ((evA C (.slA a b)).v ρ k) (kOk .rt) := s_ret (by intro i h; cases h)
theorem rt_slB {C : TA.Ctx} {ρ : TA.Env} {k : OD} {a b : E} : evS C (.ret (.slB a b)) ρ k = bO ((evA C (.slB a b)).v ρ k) (kOk .rt) := s_ret (by intro i h; cases h)
theorem rt_call {C : TA.Ctx} {ρ : TA.Env} {k : OD} {a : Nat} {b : Es} : evS C (.ret (.call a b)) ρ k = bO ((evA C (.call a b)).v ρ k) (kOk .rt) := s_ret (by intro i h; cases h)
theorem rt_callk {C : TA.Ctx} {ρ : TA.Env} {k : OD} {a b : Nat} {c : Es} : evS C (.ret (.callk a b c)) ρ k = bO ((evA C (.callk a b c)).v ρ k) (kOk .rt) := s_ret (by intro i h; cases h)
theorem rt_blt {C : TA.Ctx} {ρ : TA.Env} {k : OD} {a : TA.B} {b : Es} : evS C (.ret (.blt a b)) ρ k = bO ((evA C (.blt a b)).v ρ k) (kOk .rt) := s_ret (by intro i h; cases h)
theorem rt_comp {C : TA.Ctx} {ρ : TA.Env} {k : OD} {a : E} {b : Tg} {c : E} : evS C (.ret (.comp a b c)) ρ k = bO ((evA C (.comp a b c)).v ρ k) (kOk .rt) := s_ret (by intro i h; cases h)
theorem rt_compIf {C : TA.Ctx} {ρ : TA.Env} {k : OD} {a : E} {b : Tg} {c d : E} : evS C (.ret (.compIf a b c d)) ρ k = bO ((evA C (.compIf a b c d)).v ρ k) (kOk .rt) := s_ret (by intro i h; cases h)
theorem rt_isi {C : TA.Ctx} {ρ : TA.Env} {k : OD} {a : E} {b : List Ty} : evS C (.ret (.isi a b)) ρ k = bO ((evA C (.isi a b)).v ρ k) (kOk .rt) := s_ret (by intro i h; cases h)
def gR (o : Option (Option DV)) (k : OD) : Option (Fl × OD) := match o with
  | some (some x) => some (.rt x, k)
  | _ => none
theorem gR_s {x : DV} {k : OD} : gR (some (some x)) k = some (.rt x, k) := rfl
theorem rt_var {C : TA.Ctx} {ρ : TA.Env} {k : OD} {i : Nat} : evS C (.ret (.var i)) ρ k = gR ρ[i]? k := by
  simp only [evS, gR]
  all_goals (cases ρ[i]? with
  | none => rfl
  | some o => cases o <;> rfl)
end TM

set_option maxHeartbeats 4000000
/-! How long repr's text grows. -/
namespace TM
open PySem TA
structure Sz (b e : Nat) (d : PyData) : Prop where
  sh : d.showable = true
  ln : d.shown.length ≤ b
  dp : d.depth ≤ e
structure Szs (p e : Nat) (xs : List PyData) : Prop where
  sh : PyData.showableAll xs = true
  ln : piled (PyData.shownAll xs) ≤ p
  dp : PyData.depthAll xs ≤ e
theorem Sz.mono {b b' e e' : Nat} {d : PyData} (h : Sz b e d) (l : b ≤ b') (m : e ≤ e') : Sz b' e' d := ⟨h.sh, Nat.le_trans h.ln l, Nat.le_trans h.dp m⟩
theorem Szs.mono {b b' e e' : Nat} {d : List PyData} (h : Szs b e d) (l : b ≤ b') (m : e ≤ e') : Szs b' e' d := ⟨h.sh, Nat.le_trans h.ln l, Nat.le_trans h.dp m⟩
theorem szs_nil (p e : Nat) : Szs p e [] := ⟨by simp [PyData.showableAll], by simp [PyData.shownAll, piled], by simp [PyData.depthAll]⟩
theorem Szs.cons {b p e : Nat} {x : PyData} {xs : List PyData} (h : Sz b e x) (hs : Szs p e xs) : Szs (b + 2 + p) e (x :: xs) := by
  refine ⟨by simp [PyData.showableAll, h.sh, hs.sh], ?_, ?_⟩
  · have := h.ln; have := hs.ln
    simp only [PyData.shownAll, piled_cons]
    omega
  · have := h.dp; have := hs.dp
    simp only [PyData.depthAll]
    omega
theorem szs_cons_iff {p e : Nat} {x : PyData} {xs : List PyData} (h : Szs p e (x :: xs)) : ∃ b q, b + 2 + q ≤ p ∧ Sz b e x ∧ Szs q e xs := by
  obtain ⟨h1, h2, h3⟩ := h
  simp only [PyData.showableAll, Bool.and_eq_true] at h1
  simp only [PyData.shownAll, piled_cons] at h2
  simp only [PyData.depthAll] at h3
  exact ⟨_, _, h2, ⟨h1.1, Nat.le_refl _, by omega⟩, ⟨h1.2, Nat.le_refl _, by omega⟩⟩
theorem Szs.append {e : Nat} : ∀ {p q : Nat} {xs ys : List PyData}, Szs p e xs → Szs q e ys → Szs (p + q) e (xs ++ ys)
  | p, q, [], ys, _, h => h.mono (by omega) (Nat.le_refl _)
  | p, q, x :: xs, ys, h, h2 => by
    obtain ⟨b, r, l, h3, h4⟩ := szs_cons_iff h
    exact (Szs.cons h3 (h4.append h2)).mono (by omega) (Nat.le_refl _)
theorem Szs.take {e : Nat} : ∀ {p : Nat} {xs : List PyData} (n : Nat), Szs p e xs → Szs p e (xs.take n)
  | p, xs, 0, _ => by rw [List.take_zero]; exact szs_nil p e
  | p, [], n + 1, h => by simpa using h
  | p, x :: xs, n + 1, h => by
    obtain ⟨b, r, l, h3, h4⟩ := szs_cons_iff h
    exact (Szs.cons h3 (h4.take n)).mono l (Nat.le_refl _)
theorem Szs.drop {e : Nat} : ∀ {p : Nat} {xs : List PyData} (n : Nat), Szs p e xs → Szs p e (xs.drop n)
  | p, xs, 0, h => h
  | p, [], n + 1, h => by simpa using h
  | p, x :: xs, n + 1, h => by
    obtain ⟨b, r, l, h3, h4⟩ := szs_cons_iff h
    exact (h4.drop n).mono (by omega) (Nat.le_refl _)
theorem Szs.mem {e : Nat} : ∀ {p : Nat} {xs : List PyData} {x : PyData}, Szs p e xs → x ∈ xs → Sz p e x
  | p, y :: xs, x, h, hx => by
    obtain ⟨b, r, l, h3, h4⟩ := szs_cons_iff h
    rcases List.mem_cons.mp hx with rfl | hx
    · exact h3.mono (by omega) (Nat.le_refl _)
    · exact (h4.mem hx).mono (by omega) (Nat.le_refl _)
theorem Szs.ofAll {b e : Nat} : ∀ {xs : List PyData}, (∀ x ∈ xs, Sz b e x) → Szs (xs.length * (b + 2)) e xs
  | [], _ => szs_nil _ _
  | x :: xs, h => by
    refine (Szs.cons (h x List.mem_cons_self) (Szs.ofAll fun y hy => h y (List.mem_cons_of_mem _ hy))).mono ?_ (Nat.le_refl _)
    rw [List.length_cons, Nat.add_mul]; omega
theorem joinLen (ts : List Str) : (Str.join ", " ts).length ≤ piled ts := by
  by_cases h : ts = []
  · subst h; simp [Str.join, piled]; rfl
  · have := join_length_add ts h; omega
theorem Szs.tup {p e : Nat} {xs : List PyData} (h : Szs p e xs) : Sz (p + 3) (e + 1) (.tuple xs) := by
  refine ⟨by simpa [PyData.showable] using h.sh, ?_, ?_⟩
  · have l1 := joinLen (PyData.shownAll xs)
    have l2 := h.ln
    simp only [PyData.shown, tupleText]
    rw [strLen_append, strLen_append]
    have l3 : (("(" : String) : Str).length = 1 := rfl
    have l4 : ∀ b : Bool, (((if b then ",)" else ")" : String)) : Str).length ≤ 2 := fun b => by cases b <;> decide
    have := l4 ((PyData.shownAll xs).length == 1)
    omega
  · have := h.dp
    simp only [PyData.depth]
    omega
theorem textLen : ∀ (ts : List Str) (k : Nat) (acc : Str), (textFrom k acc ts).length ≤ acc.length + piled ts
  | [], k, acc => by simp [textFrom, piled]
  | t :: r, k, acc => by
    have ih := textLen r (k + 1) (acc ++ (if k > 0 then ", " else "" : String) ++ t)
    have e : (acc ++ (if k > 0 then ", " else "" : String) ++ t).length ≤ acc.length + 2 + t.length := by
      rw [strLen_append, strLen_append]
      have : (((if k > 0 then ", " else "" : String)) : Str).length ≤ 2 := by split <;> decide
      omega
    simp only [textFrom, piled_cons]
    omega
theorem Szs.lst {p e : Nat} {xs : List PyData} (h : Szs p e xs) : Sz (p + 3) (e + 1) (.list xs) := by
  refine ⟨by simpa [PyData.showable] using h.sh, ?_, ?_⟩
  · have l1 := textLen (PyData.shownAll xs) 0 "["
    have l2 := h.ln
    simp only [PyData.shown, listText]
    rw [strLen_append]
    have l3 : (("[" : String) : Str).length = 1 := rfl
    have l4 : (("]" : String) : Str).length = 1 := rfl
    omega
  · have := h.dp
    simp only [PyData.depth]
    omega
theorem Sz.dict1 {b e : Nat} {x : Str} {d : PyData} (hx : (PyData.str x).shown.length ≤ 20) (h : Sz b e d) : Sz (b + 30) (e + 1) (.dict [(.str x, d)]) := by
  refine ⟨by simp [PyData.showable, PyData.showableKv, h.sh], ?_, ?_⟩
  · have l1 := joinLen (PyData.shownKv [(.str x, d)])
    have l2 := h.ln
    simp only [PyData.shown, dictText]
    rw [strLen_append, strLen_append]
    have l3 : (("{" : String) : Str).length = 1 := rfl
    have l4 : (("}" : String) : Str).length = 1 := rfl
    have l5 : piled (PyData.shownKv [(.str x, d)]) ≤ b + 26 := by
      simp only [PyData.shownKv, piled_cons, piled_nil]
      rw [strLen_append, strLen_append]
      have : ((": " : String) : Str).length = 2 := rfl
      omega
    omega
  · have := h.dp
    simp only [PyData.depth, PyData.depthKv]
    omega
theorem repOk_of {b e : Nat} {d : PyData} (h : Sz b e d) (hb : b ≤ 16000000) (he : e ≤ 100) : repOk d = true := by
  have l1 := h.ln
  have l2 := h.dp
  have : (16000000 : Nat) ≤ sizeLine := by decide
  simp only [repOk, h.sh, Bool.true_and, Bool.and_eq_true, decide_eq_true_eq]
  omega
theorem repB_of {b e : Nat} {d : PyData} (h : Sz b e d) (hb : b ≤ 16000000) (he : e ≤ 100) : repB d = some (.d (.str d.shown)) := by
  rw [repB, repOk_of h hb he]; rfl
end TM

set_option maxHeartbeats 4000000
/-! Runs as obligations: Wp r Q says that r ends and its result satisfies Q; what comes next is a stack of words. -/
namespace TM
open PySem TA
@[irreducible] def Wp {α : Type} (r : Option (α × OD)) (Q : α → OD → Prop) : Prop := match r with
  | some (a, k) => Q a k
  | none => False
def kW {α β : Type} (f : α → OD → Option (β × OD)) (Q : β → OD → Prop) (a : α) (k : OD) : Prop := Wp (f a k) Q
def kT (g : Cs) (Q : Fl → OD → Prop) (a : Fl) (k : OD) : Prop := Wp (thn (some (a, k)) g) Q
def kE (Q : DV → OD → Prop) (a : Fl) (k : OD) : Prop := Wp (endOf (some (a, k))) Q
def kOV (Q : PyData → OD → Prop) (a : DV) (k : OD) : Prop := Wp (oV (some (a, k))) Q
def kTV (Q : Bool → OD → Prop) (a : DV) (k : OD) : Prop := Wp (tV (some (a, k))) Q
def kVB (Q : DV → OD → Prop) (a : Bool) (k : OD) : Prop := Wp (vB (some (a, k))) Q
def kOB (Q : PyData → OD → Prop) (a : Bool) (k : OD) : Prop := Wp (oB (some (a, k))) Q
section
variable {α β : Type} {a : α} {k : OD} {r : Option (α × OD)} {f : α → OD → Option (β × OD)} {Q : β → OD → Prop} {R : α → OD → Prop} {g : Cs} {QF : Fl → OD → Prop} {QD : DV → OD → Prop} {QP : PyData → OD → Prop} {QB : Bool → OD → Prop} {x : Fl} {v : DV} {b : Bool}
theorem wp_some : Wp (some (a, k)) R = R a k := by unfold Wp; rfl
theorem wp_none : Wp (none : Option (α × OD)) R = False := by unfold Wp; rfl
theorem wp_bO : Wp (bO r f) Q = Wp r (kW f Q) := by
  unfold kW Wp
  cases r with
  | none => rfl
  | some p => rfl
theorem wp_thn {r : Option (Fl × OD)} : Wp (thn r g) QF = Wp r (kT g QF) := by
  unfold kT Wp
  cases r with
  | none => rfl
  | some p => rfl
theorem wp_endOf {r : Option (Fl × OD)} : Wp (endOf r) QD = Wp r (kE QD) := by
  unfold kE Wp
  cases r with
  | none => rfl
  | some p => rfl
theorem wp_oV {r : Option (DV × OD)} : Wp (oV r) QP = Wp r (kOV QP) := by
  unfold kOV Wp
  cases r with
  | none => rfl
  | some p => rfl
theorem wp_tV {r : Option (DV × OD)} : Wp (tV r) QB = Wp r (kTV QB) := by
  unfold kTV Wp
  cases r with
  | none => rfl
  | some p => rfl
theorem wp_vB {r : Option (Bool × OD)} : Wp (vB r) QD = Wp r (kVB QD) := by
  unfold kVB Wp
  cases r with
  | none => rfl
  | some p => rfl
theorem wp_oB {r : Option (Bool × OD)} : Wp (oB r) QP = Wp r (kOB QP) := by
  unfold kOB Wp
  cases r with
  | none => rfl
  | some p => rfl
theorem kW_a : kW f Q a k = Wp (f a k) Q := rfl
theorem kT_a : kT g QF x k = Wp (thn (some (x, k)) g) QF := rfl
theorem kE_a : kE QD x k = Wp (endOf (some (x, k))) QD := rfl
theorem kOV_a : kOV QP v k = Wp (oV (some (v, k))) QP := rfl
theorem kTV_a : kTV QB v k = Wp (tV (some (v, k))) QB := rfl
theorem kVB_a : kVB QD b k = Wp (vB (some (b, k))) QD := rfl
theorem kOB_a : kOB QP b k = Wp (oB (some (b, k))) QP := rfl
theorem Wp.mono {Q : α → OD → Prop} (h : Wp r R) (m : ∀ a k, R a k → Q a k) : Wp r Q := by
  unfold Wp at *
  cases r with
  | none => exact h
  | some p => exact m _ _ h
theorem wp_eq (h : r = some (a, k)) (q : R a k) : Wp r R := by rw [h, wp_some]; exact q
theorem Wp.get (h : Wp r R) : ∃ a k, r = some (a, k) ∧ R a k := by
  unfold Wp at h
  cases r with
  | none => exact h.elim
  | some p => exact ⟨_, _, rfl, h⟩
end
/-- a comprehension that hands the deck on: what holds of each item -/
theorem wp_comp {tg : Nat} {e : Cm DV} {ρ : TA.Env} (P : PyData → PyData → Prop) (B : Int) {lim : Int} (hB : 0 ≤ B) : ∀ (xs : List PyData) (c : Int) (q : Dk) (Q : List PyData → OD → Prop), DkOk c q → c + xs.length * B ≤ lim →
    (∀ x ∈ xs, ∀ c q, DkOk c q → c + B ≤ lim → Wp (e ((wipeE ρ [tg]).set tg (some (.d x))) (some q)) fun v k => ∃ d q', v.dat = some d ∧ k = some q' ∧ P x d ∧ DkOk (c + B) q') →
    (∀ ds q', ds.length = xs.length → (∀ (i : Nat) x d, xs[i]? = some x → ds[i]? = some d → P x d) → DkOk (c + xs.length * B) q' → Q ds (some q')) →
    Wp (compL (.one tg) e (.ret true) xs ρ (some q)) Q
  | [], c, q, Q, hq, _, _, hQ => wp_eq (a := []) rfl (hQ [] q rfl (by simp) (hq.mono (by simp)))
  | x :: xs, c, q, Q, hq, hl, h, hQ => by
    have hlen : ((x :: xs).length : Int) * B = xs.length * B + B := by rw [List.length_cons]; push_cast; rw [Int.add_mul]; omega
    have nn : (0 : Int) ≤ xs.length * B := Int.mul_nonneg (by omega) hB
    obtain ⟨v, k, e1, d, q1, e2, rfl, e3, e4⟩ := (h x List.mem_cons_self c q hq (by omega)).get
    have ih := wp_comp P B hB xs (c + B) q1 (fun ds k => Q (d :: ds) k) e4 (by omega) (fun y hy => h y (List.mem_cons_of_mem _ hy)) fun ds q' l1 l2 l3 => by
      refine hQ (d :: ds) q' (by simp [l1]) (fun i y z hy hz => ?_) (l3.mono (by omega))
      cases i with
      | zero => simp at hy hz; subst hy hz; exact e3
      | succ i => exact l2 i y z (by simpa using hy) (by simpa using hz)
    obtain ⟨ds, k2, f1, f2⟩ := ih.get
    refine wp_eq (a := d :: ds) (k := k2) ?_ f2
    rw [compL]
    simp only [setTg, Tg.slots]
    rw [show (Cm.ret true : Cm Bool) ((wipeE ρ [tg]).set tg (some (.d x))) (some q) = some (true, some q) from rfl]
    simp only [e1, e2, f1]
/-- a loop with an invariant of the names and the deck, turn by turn -/
theorem wp_for {tg : Tg} {b : Cs} (I : List PyData → TA.Env → OD → Prop) : ∀ (xs : List PyData) (ρ : TA.Env) (k : OD) (Q : Fl → OD → Prop), I xs ρ k →
    (∀ x xs ρ k, I (x :: xs) ρ k → ∃ ρ', setTg tg x ρ = some ρ' ∧ Wp (b ρ' k) fun fl k' => match fl with
      | .nx ρ2 => I xs ρ2 k'
      | .ct ρ2 => I xs ρ2 k'
      | .bk ρ2 => Q (.nx ρ2) k'
      | .rt v => Q (.rt v) k') →
    (∀ ρ k, I [] ρ k → Q (.nx ρ) k) → Wp (forL tg b xs ρ k) Q
  | [], ρ, k, Q, hi, _, h0 => wp_eq (a := .nx ρ) rfl (h0 ρ k hi)
  | x :: xs, ρ, k, Q, hi, hs, h0 => by
    obtain ⟨ρ', h1, h2⟩ := hs x xs ρ k hi
    rw [forL]
    simp only [h1]
    obtain ⟨fl, k', e, h3⟩ := h2.get
    simp only [e]
    cases fl with
    | nx ρ2 => exact wp_for I xs ρ2 k' Q h3 hs h0
    | ct ρ2 => exact wp_for I xs ρ2 k' Q h3 hs h0
    | bk ρ2 => rw [wp_some]; exact h3
    | rt v => rw [wp_some]; exact h3
theorem wp_while {t : Cm Bool} {b : Cs} (I : Nat → TA.Env → OD → Prop) : ∀ (m n : Nat) (ρ : TA.Env) (k : OD) (Q : Fl → OD → Prop), m < n → I m ρ k →
    (∀ m ρ k, I m ρ k → Wp (t ρ k) fun c k1 => match c with
      | false => Q (.nx ρ) k1
      | true => 0 < m ∧ Wp (b ρ k1) fun fl k' => match fl with
        | .nx ρ2 => I (m - 1) ρ2 k'
        | .ct ρ2 => I (m - 1) ρ2 k'
        | .bk ρ2 => Q (.nx ρ2) k'
        | .rt v => Q (.rt v) k') → Wp (whileL t b n ρ k) Q
  | m, 0, ρ, k, Q, h, _, _ => by omega
  | m, n + 1, ρ, k, Q, h, hi, hs => by
    obtain ⟨c, k1, e1, h1⟩ := (hs m ρ k hi).get
    rw [whileL]
    cases c with
    | false => simp only [e1]; rw [wp_some]; exact h1
    | true =>
      obtain ⟨hm, h2⟩ := h1
      obtain ⟨fl, k', e2, h3⟩ := h2.get
      simp only [e1, e2]
      cases fl with
      | nx ρ2 => exact wp_while I (m - 1) n ρ2 k' Q (by omega) h3 hs
      | ct ρ2 => exact wp_while I (m - 1) n ρ2 k' Q (by omega) h3 hs
      | bk ρ2 => rw [wp_some]; exact h3
      | rt v => rw [wp_some]; exact h3
/-! ### what M2 lacked -/
section
variable {C : TA.Ctx} {ρ : TA.Env} {k : OD} {a b c : E} {es : Es} {i j : Nat}
def kCallk2 (C : TA.Ctx) (n : Nat) (ys : List DV) (pm : List Nat) (k : OD) : Option (DV × OD) := C.cl n (permL pm ys) k
theorem kCallk_a {n i : Nat} {ys : List DV} : kCallk C n i ys k = bO (lO (C.kw[i]?) k) (kCallk2 C n ys) := rfl
theorem kCallk2_a {n : Nat} {ys : List DV} {pm : List Nat} : kCallk2 C n ys pm k = C.cl n (permL pm ys) k := rfl
theorem callk_o {n i : Nat} : (evA C (.callk n i es)).o ρ k = oV ((evA C (.callk n i es)).v ρ k) := rfl
theorem dkey_i {x : Int} : keyOk (.int x) = some () := rfl
theorem dkey_s {x : Str} : keyOk (.str x) = some () := rfl
def kDictU (C : TA.Ctx) (b : E) (ρ : TA.Env) (x : PyData) (_ : Unit) (k : OD) : Option (DV × OD) := bO ((evA C b).v ρ k) (kDict2 x)
theorem kDict_a {x : PyData} : kDict C b ρ x k = bO (lO (keyOk x) k) (kDictU C b ρ x) := rfl
theorem kDictU_a {x : PyData} {u : Unit} : kDictU C b ρ x u k = bO ((evA C b).v ρ k) (kDict2 x) := rfl
theorem kDict2_d {x y : PyData} : kDict2 x (.d y) k = some (.d (.dict [(x, y)]), k) := rfl
def kSlAB2 (x : PyData) (i : Int) (z : PyData) : Option DV := (intD z).bind fun j => slD x (some i) (some j)
def kSlAB1 (C : TA.Ctx) (c : E) (ρ : TA.Env) (x : PyData) (i : Int) (k : OD) : Option (DV × OD) := bO ((evA C c).o ρ k) (kLift (kSlAB2 x i))
def kSlAB0 (C : TA.Ctx) (c : E) (ρ : TA.Env) (x : PyData) (y : PyData) (k : OD) : Option (DV × OD) := bO (lO (intD y) k) (kSlAB1 C c ρ x)
def kSlAB (C : TA.Ctx) (b c : E) (ρ : TA.Env) (x : PyData) (k : OD) : Option (DV × OD) := bO ((evA C b).o ρ k) (kSlAB0 C c ρ x)
theorem slAB_v : (evA C (.slAB a b c)).v ρ k = bO ((evA C a).o ρ k) (kSlAB C b c ρ) := rfl
theorem slAB_o : (evA C (.slAB a b c)).o ρ k = oV ((evA C (.slAB a b c)).v ρ k) := rfl
theorem kSlAB_a {x : PyData} : kSlAB C b c ρ x k = bO ((evA C b).o ρ k) (kSlAB0 C c ρ x) := rfl
theorem kSlAB0_a {x y : PyData} : kSlAB0 C c ρ x y k = bO (lO (intD y) k) (kSlAB1 C c ρ x) := rfl
theorem kSlAB1_a {x : PyData} {i : Int} : kSlAB1 C c ρ x i k = bO ((evA C c).o ρ k) (kLift (kSlAB2 x i)) := rfl
theorem kSlAB2_a {x z : PyData} {i : Int} : kSlAB2 x i z = (intD z).bind fun j => slD x (some i) (some j) := rfl
def kNeg (x : PyData) : Option DV := (intD x).map fun i => .d (.int (-i))
theorem neg_v : (evA C (.neg a)).v ρ k = bO ((evA C a).o ρ k) (kLift kNeg) := rfl
theorem neg_o : (evA C (.neg a)).o ρ k = oV ((evA C (.neg a)).v ρ k) := rfl
theorem kNeg_i {i : Int} : kNeg (.int i) = some (.d (.int (-i))) := rfl
theorem notN_t : (evA C (.notN a)).t ρ k = bO ((evA C a).o ρ k) (kOk fun x => !isNone x) := rfl
theorem not_v : (evA C (.not a)).v ρ k = vB (bO (bO ((evA C a).o ρ k) (kLift truthD)) (kOk not)) := by
  show Cm.bnd _ _ ρ k = _
  rw [bnd_bO, bnd_bO]
  show _ = bO _ _
  cases (evA C a).o ρ k with
  | none => rfl
  | some p =>
    obtain ⟨x, k1⟩ := p
    simp only [bO_some, kLift_a, Cm.bnd, Cm.lift, lO]
    cases truthD x <;> rfl
def kAug2 (i : Nat) (op : Operator) (ρ : TA.Env) (x y : PyData) (k : OD) : Option (Fl × OD) := match binD op x y with
  | some (.d (.int z)) => some (.nx (ρ.set i (some (.d (.int z)))), k)
  | _ => none
def kAug (C : TA.Ctx) (i : Nat) (op : Operator) (a : E) (ρ : TA.Env) (x : PyData) (k : OD) : Option (Fl × OD) := bO ((evA C a).o ρ k) (kAug2 i op ρ x)
theorem s_aug {op : Operator} : evS C (.aug i op a) ρ k = bO (gO ρ[i]? k) (kAug C i op a ρ) := by
  simp only [evS]
  rw [show varO i ρ k = gO ρ[i]? k from var_o (C := C)]
  have hk : ∀ x k1, gO ρ[i]? k = some (x, k1) → k1 = k := by
    intro x k1 h
    unfold gO at h
    split at h <;> cases h <;> rfl
  cases h : gO ρ[i]? k with
  | none => rfl
  | some p =>
    obtain ⟨x, k1⟩ := p
    have := hk x k1 h
    subst this
    simp only [bO_some, kAug]
    cases (evA C a).o ρ k1 with
    | none => rfl
    | some p => rfl
theorem kAug_a {op : Operator} {x : PyData} : kAug C i op a ρ x k = bO ((evA C a).o ρ k) (kAug2 i op ρ x) := rfl
theorem kAug2_a {op : Operator} {x y : PyData} {z : Int} (h : binD op x y = some (.d (.int z))) : kAug2 i op ρ x y k = some (.nx (ρ.set i (some (.d (.int z)))), k) := by simp only [kAug2, h]
theorem s_whil {b : Ss} : evS C (.whil a b) ρ k = whileL (evA C a).t (evSs C b) C.wf ρ k := rfl
theorem s_brk : evS C .brk ρ k = some (.bk ρ, k) := rfl
theorem s_cont : evS C .cont ρ k = some (.ct ρ, k) := rfl
theorem s_retN : evS C .retN ρ k = some (.rt (.d .none), k) := rfl
theorem kApp_a {x : DV} {d : PyData} {xs : List PyData} (h1 : x.dat = some d) (h2 : ρ[i]? = some (some (.own xs))) (h3 : xs.length < sizeLine) : kApp i ρ x k = some (.nx (ρ.set i (some (.own (xs ++ [d])))), k) := by
  simp only [kApp, h1, h2, h3, if_true]
def kPop2 (j i : Nat) (ρ : TA.Env) (x : PyData) (k : OD) : Option (Fl × OD) := match x with
  | .int n => match ρ[i]? with
    | some (some (.own xs)) => if 0 ≤ n ∧ n < xs.length ∧ n < 1000000 ∧ i ≠ j then match xs[n.toNat]? with
        | some y => some (.nx ((ρ.set i (some (.own (xs.eraseIdx n.toNat)))).set j (some (.d y))), k)
        | none => none
      else none
    | _ => none
  | _ => none
theorem s_popAt : evS C (.popAt j i a) ρ k = bO ((evA C a).o ρ k) (kPop2 j i ρ) := by
  simp only [evS]
  cases (evA C a).o ρ k with
  | none => rfl
  | some p =>
    obtain ⟨x, k1⟩ := p
    cases x <;> rfl
theorem kPop2_a {n : Nat} {xs : List PyData} {y : PyData} (h2 : ρ[i]? = some (some (.own xs))) (h3 : n < xs.length) (h5 : n < 1000000) (h6 : i ≠ j) (h4 : xs[n]? = some y) : kPop2 j i ρ (.int n) k = some (.nx ((ρ.set i (some (.own (xs.eraseIdx n)))).set j (some (.d y))), k) := by
  simp only [kPop2, h2]
  rw [if_pos ⟨by omega, by omega, by omega, h6⟩]
  simp only [Int.toNat_natCast, h4]
end
end TM

set_option maxHeartbeats 4000000
/-! k06_kinds: the text in the small language, checked against the given form. -/
namespace K06
open PySem TA L2
def WF : Nat := 20
def top (i : Nat) : Stmt := PySem.Challenge.pw_throughall_k06_kinds.main.body.getD i (.Pass ⟨0, 0, 0, 0⟩)
def b0_0 : E := (.call 0 (.cons (.var 5) (.cons (.var 1) (.cons (.bin .Sub (.var 2) (.int 1)) .nil))))
def b0 : Ss := (.cons (.ite (.isi (.var 0) [.str]) (.cons (.ret (.cmp .In (.var 0) (.glb 0))) .nil) .nil) (.cons (.ite (.bop false (.cons (.not (.isi (.var 0) [.tuple])) (.cons (.cmp .NotEq (.blt .len (.cons (.var 0) .nil)) (.int 2)) (.cons (.not (.isi (.idx (.var 0) (.int 0)) [.str])) .nil)))) (.cons (.ret (.bl false)) .nil) .nil) (.cons (.unp [3, 4] (.var 0)) (.cons (.ite (.cmp .Eq (.var 3) (.glb 1)) (.cons (.ret (.bop true (.cons (.cmp .Gt (.var 1) (.int 0)) (.cons (.bop false (.cons (.isN (.var 4)) (.cons (.call 0 (.cons (.var 4) (.cons (.bin .Sub (.var 1) (.int 1)) (.cons (.var 2) .nil)))) .nil))) .nil)))) .nil) .nil) (.cons (.ite (.bop false (.cons (.cmp .NotEq (.var 3) (.glb 2)) (.cons (.cmp .Eq (.var 2) (.int 0)) (.cons (.not (.isi (.var 4) [.tuple])) (.cons (.not (.chain .LtE .LtE (.int 1) (.blt .len (.cons (.var 4) .nil)) (.glb 3))) .nil))))) (.cons (.ret (.bl false)) .nil) .nil) (.cons (.ret (.blt .all (.cons (.comp b0_0 (.one 5) (.var 4)) .nil))) .nil))))))
def n0 : List Str := ["thing", "sets", "rows", "word", "inside", "kind"]
def p0 : List Str := ["thing", "sets", "rows"]
abbrev s0 : Stmt := top 6 -- is_kind_within
def b1 : Ss := (.cons (.ret (.call 0 (.cons (.var 0) (.cons (.glb 4) (.cons (.glb 4) .nil))))) .nil)
def n1 : List Str := ["thing"]
def p1 : List Str := ["thing"]
abbrev s1 : Stmt := top 7 -- is_kind
def b2 : Ss := (.cons (.ite (.cmp .Eq (.var 0) (.var 1)) (.cons (.ret (.var 0)) .nil) .nil) (.cons (.ite (.bop false (.cons (.isi (.var 0) [.str]) (.cons (.isi (.var 1) [.str]) (.cons (.cmp .NotEq (.idx (.var 0) (.int 0)) (.idx (.var 1) (.int 0))) .nil)))) (.cons (.ret .non) .nil) .nil) (.cons (.ite (.cmp .Eq (.idx (.var 0) (.int 0)) (.glb 2)) (.cons (.ret (.call 3 (.cons (.idx (.var 0) (.int 1)) (.cons (.idx (.var 1) (.int 1)) .nil)))) .nil) .nil) (.cons (.ite (.bop false (.cons (.isN (.idx (.var 0) (.int 1))) (.cons (.isN (.idx (.var 1) (.int 1))) .nil))) (.cons (.ret (.ife (.isN (.idx (.var 0) (.int 1))) (.var 1) (.var 0))) .nil) .nil) (.cons (.set 2 (.call 2 (.cons (.idx (.var 0) (.int 1)) (.cons (.idx (.var 1) (.int 1)) .nil)))) (.cons (.frz 2) (.cons (.ret (.ife (.isN (.var 2)) .non (.tup (.cons (.glb 1) (.cons (.var 2) .nil))))) .nil)))))))
def n2 : List Str := ["kind", "other", "inside"]
def p2 : List Str := ["kind", "other"]
abbrev s2 : Stmt := top 8 -- join_kinds
def b3_0 : E := (.call 2 (.cons (.var 3) (.cons (.var 4) .nil)))
def b3 : Ss := (.cons (.ite (.cmp .NotEq (.blt .len (.cons (.var 0) .nil)) (.blt .len (.cons (.var 1) .nil))) (.cons (.ret .non) .nil) .nil) (.cons (.setLc 2 (.comp b3_0 (.many [3, 4]) (.zip true (.var 0) (.var 1)))) (.cons (.frz 2) (.cons (.ret (.ife (.cmp .In .non (.var 2)) .non (.tup (.cons (.glb 2) (.cons (.blt .tuple (.cons (.var 2) .nil)) .nil))))) .nil))))
def n3 : List Str := ["kinds", "others", "parts", "kind", "other"]
def p3 : List Str := ["kinds", "others"]
abbrev s3 : Stmt := top 9 -- join_rows
def b4 : Ss := (.cons (.ret (.cmp .Eq (.call 2 (.cons (.var 0) (.cons (.var 1) .nil))) (.var 1))) .nil)
def n4 : List Str := ["kind", "other"]
def p4 : List Str := ["kind", "other"]
abbrev s4 : Stmt := top 10 -- fits
def b5_0 : Ss := (.cons (.set 2 (.bin .Mod (.bin .Add (.bin .Add (.bin .Mult (.var 2) (.int 69621)) (.bin .Mod (.var 3) (.int 2147483629))) (.int 37)) (.int 2147483587))) .nil)
def b5 : Ss := (.cons (.par [1, 2] (.cons (.blt .list (.cons (.slB (.var 0) (.int 63)) .nil)) (.cons (.int 20903) .nil))) (.cons (.frz 1) (.cons (.loop (.one 3) (.var 1) b5_0) (.cons (.retDk (.rev (.var 1)) (.var 2) (.int 0)) .nil))))
def n5 : List Str := ["_law_script", "_law_cells", "_law_mixed", "_law_cell"]
def p5 : List Str := ["_law_script"]
abbrev s5 : Stmt := top 12 -- _law_deck
def b6 : Ss := (.cons (.dkSet 0 (.bin .Add (.dkCnt 0) (.int 1))) (.cons (.set 2 (.dkTot 0)) (.cons (.ite (.dkNE 0) (.cons (.set 2 (.dkPop 0)) (.cons (.ite (.cmp .GtE (.var 2) (.bin .Pow (.int 10) (.int 18))) (.cons (.dkPush 0 (.bin .FloorDiv (.var 2) (.var 1))) (.cons (.ret (.bin .Mod (.var 2) (.var 1))) .nil)) .nil) (.cons (.set 2 (.bin .Add (.var 2) (.dkTot 0))) (.cons (.frz 2) .nil)))) .nil) (.cons (.set 3 (.bin .Mod (.bin .Mult (.bin .Add (.bin .Add (.bin .Mod (.var 2) (.int 2147483587)) (.bin .Mult (.bin .Mult (.int 92821) (.dkCnt 0)) (.dkCnt 0))) (.int 53)) (.int 48271)) (.int 2147483647))) (.cons (.set 3 (.bin .Mod (.bin .Add (.bin .Add (.bin .Mult (.var 3) (.var 3)) (.bin .Mult (.int 39373) (.dkCnt 0))) (.int 19)) (.int 2147483629))) (.cons (.ret (.bin .Mod (.bin .FloorDiv (.bin .Mod (.bin .Mult (.var 3) (.int 40692)) (.int 2147483563)) (.int 64)) (.var 1))) .nil))))))
def n6 : List Str := ["_law_deck_here", "_law_count", "_law_cell", "_law_number"]
def p6 : List Str := ["_law_deck_here", "_law_count"]
abbrev s6 : Stmt := top 13 -- _law_draw
def b7 : Ss := (.cons (.ret (.idx (.var 1) (.call 6 (.cons (.var 0) (.cons (.blt .len (.cons (.var 1) .nil)) .nil))))) .nil)
def n7 : List Str := ["_law_deck_here", "_law_items"]
def p7 : List Str := ["_law_deck_here", "_law_items"]
abbrev s7 : Stmt := top 14 -- _law_pick
def b8_0 : E := (.call 8 (.cons (.var 0) (.cons (.var 1) (.cons (.bin .Sub (.var 2) (.int 1)) .nil))))
def b8 : Ss := (.cons (.set 3 (.call 6 (.cons (.var 0) (.cons (.int 7) .nil)))) (.cons (.frz 3) (.cons (.ite (.bop true (.cons (.cmp .Eq (.var 3) (.int 3)) (.cons (.cmp .Gt (.var 1) (.int 0)) .nil))) (.cons (.ret (.tup (.cons (.str "set") (.cons .non .nil)))) .nil) .nil) (.cons (.ite (.bop true (.cons (.cmp .In (.var 3) (.tup (.cons (.int 4) (.cons (.int 5) .nil)))) (.cons (.cmp .Gt (.var 1) (.int 0)) .nil))) (.cons (.ret (.tup (.cons (.str "set") (.cons (.call 8 (.cons (.var 0) (.cons (.bin .Sub (.var 1) (.int 1)) (.cons (.var 2) .nil)))) .nil)))) .nil) .nil) (.cons (.ite (.bop true (.cons (.cmp .Eq (.var 3) (.int 6)) (.cons (.cmp .Gt (.var 2) (.int 0)) .nil))) (.cons (.ret (.tup (.cons (.str "row") (.cons (.blt .tuple (.cons (.comp b8_0 (.one 4) (.rng1 (.bin .Add (.int 1) (.call 6 (.cons (.var 0) (.cons (.int 4) .nil)))))) .nil)) .nil)))) .nil) .nil) (.cons (.ret (.call 7 (.cons (.var 0) (.cons (.lst (.cons (.str "truth") (.cons (.str "number") (.cons (.str "atom") .nil)))) .nil)))) .nil))))))
def n8 : List Str := ["_law_deck_here", "_law_sets", "_law_rows", "_law_way", "_law_k"]
def p8 : List Str := ["_law_deck_here", "_law_sets", "_law_rows"]
abbrev s8 : Stmt := top 15 -- _law_kind
def b9_0 : E := (.cmp .NotEq (.var 2) (.lst .nil))
def b9_1 : Ss := (.cons (.popAt 3 2 (.call 6 (.cons (.var 0) (.cons (.blt .len (.cons (.var 2) .nil)) .nil)))) (.cons (.set 1 (.ife (.cmp .Eq (.var 3) (.str "set")) (.tup (.cons (.str "set") (.cons (.var 1) .nil))) (.tup (.cons (.str "row") (.cons (.bin .Mult (.tup (.cons (.var 1) .nil)) (.bin .Add (.int 1) (.call 6 (.cons (.var 0) (.cons (.int 2) .nil))))) .nil))))) (.cons (.frz 1) .nil)))
def b9 : Ss := (.cons (.par [1, 2] (.cons (.call 7 (.cons (.var 0) (.cons (.lst (.cons (.str "truth") (.cons (.str "number") (.cons (.str "atom") .nil)))) .nil))) (.cons (.bin .Add (.bin .Mult (.lst (.cons (.str "set") .nil)) (.int 3)) (.bin .Mult (.lst (.cons (.str "row") .nil)) (.int 3))) .nil))) (.cons (.frz 1) (.cons (.whil b9_0 b9_1) (.cons (.ret (.var 1)) .nil))))
def n9 : List Str := ["_law_deck_here", "_law_found", "_law_left", "_law_word"]
def p9 : List Str := ["_law_deck_here"]
abbrev s9 : Stmt := top 16 -- _law_deep
def b10_0 : E := (.call 10 (.cons (.var 0) (.cons (.var 2) .nil)))
def b10 : Ss := (.cons (.ite (.bop false (.cons (.isi (.var 1) [.str]) (.cons (.isN (.idx (.var 1) (.int 1))) .nil))) (.cons (.ret (.var 1)) .nil) .nil) (.cons (.ite (.cmp .Eq (.idx (.var 1) (.int 0)) (.str "set")) (.cons (.ret (.ife (.cmp .Eq (.call 6 (.cons (.var 0) (.cons (.int 3) .nil))) (.int 0)) (.tup (.cons (.str "set") (.cons .non .nil))) (.tup (.cons (.str "set") (.cons (.call 10 (.cons (.var 0) (.cons (.idx (.var 1) (.int 1)) .nil))) .nil))))) .nil) .nil) (.cons (.ret (.tup (.cons (.str "row") (.cons (.blt .tuple (.cons (.comp b10_0 (.one 2) (.idx (.var 1) (.int 1))) .nil)) .nil)))) .nil)))
def n10 : List Str := ["_law_deck_here", "_law_own", "_law_part"]
def p10 : List Str := ["_law_deck_here", "_law_own"]
abbrev s10 : Stmt := top 17 -- _law_loosened
def b11 : Ss := (.cons (.ite (.bop false (.cons (.isi (.var 1) [.str]) (.cons (.isN (.idx (.var 1) (.int 1))) (.cons (.cmp .Eq (.call 6 (.cons (.var 0) (.cons (.int 4) .nil))) (.int 0)) .nil)))) (.cons (.ret (.call 8 (.cons (.var 0) (.cons (.int 1) (.cons (.int 1) .nil))))) .nil) .nil) (.cons (.ite (.cmp .Eq (.idx (.var 1) (.int 0)) (.str "set")) (.cons (.ret (.tup (.cons (.str "set") (.cons (.call 11 (.cons (.var 0) (.cons (.idx (.var 1) (.int 1)) .nil))) .nil)))) .nil) .nil) (.cons (.set 2 (.call 6 (.cons (.var 0) (.cons (.blt .len (.cons (.idx (.var 1) (.int 1)) .nil)) .nil)))) (.cons (.frz 2) (.cons (.ite (.cmp .Eq (.call 6 (.cons (.var 0) (.cons (.int 4) .nil))) (.int 0)) (.cons (.ret (.tup (.cons (.str "row") (.cons (.bop false (.cons (.bin .Add (.slB (.idx (.var 1) (.int 1)) (.var 2)) (.slA (.idx (.var 1) (.int 1)) (.bin .Add (.var 2) (.int 1)))) (.cons (.bin .Mult (.idx (.var 1) (.int 1)) (.int 2)) .nil))) .nil)))) .nil) .nil) (.cons (.ret (.tup (.cons (.str "row") (.cons (.bin .Add (.bin .Add (.slB (.idx (.var 1) (.int 1)) (.var 2)) (.tup (.cons (.call 11 (.cons (.var 0) (.cons (.idx (.idx (.var 1) (.int 1)) (.var 2)) .nil))) .nil))) (.slA (.idx (.var 1) (.int 1)) (.bin .Add (.var 2) (.int 1)))) .nil)))) .nil))))))
def n11 : List Str := ["_law_deck_here", "_law_own", "_law_at"]
def p11 : List Str := ["_law_deck_here", "_law_own"]
abbrev s11 : Stmt := top 18 -- _law_changed
def b12_0 : E := (.tup (.cons (.str "set") (.cons (.var 4) .nil)))
def b12_1 : E := (.call 12 (.cons (.var 4) (.cons (.var 6) .nil)))
def b12_2 : E := (.idx (.var 4) (.int 0))
def b12 : Ss := (.cons (.ite (.cmp .Eq (.var 0) (.var 1)) (.cons (.ret (.lst (.cons (.var 0) .nil))) .nil) .nil) (.cons (.ite (.bop false (.cons (.isi (.var 0) [.str]) (.cons (.isi (.var 1) [.str]) (.cons (.cmp .NotEq (.idx (.var 0) (.int 0)) (.idx (.var 1) (.int 0))) .nil)))) (.cons (.ret (.lst .nil)) .nil) .nil) (.cons (.par [2, 3] (.cons (.idx (.var 0) (.int 1)) (.cons (.idx (.var 1) (.int 1)) .nil))) (.cons (.ite (.cmp .Eq (.idx (.var 0) (.int 0)) (.str "set")) (.cons (.ite (.bop false (.cons (.isN (.var 2)) (.cons (.isN (.var 3)) .nil))) (.cons (.ret (.ife (.isN (.var 2)) (.lst (.cons (.var 1) .nil)) (.lst (.cons (.var 0) .nil)))) .nil) .nil) (.cons (.ret (.comp b12_0 (.one 4) (.call 12 (.cons (.var 2) (.cons (.var 3) .nil))))) .nil)) .nil) (.cons (.ite (.cmp .NotEq (.blt .len (.cons (.var 2) .nil)) (.blt .len (.cons (.var 3) .nil))) (.cons (.ret (.lst .nil)) .nil) .nil) (.cons (.setLc 5 (.comp b12_1 (.many [4, 6]) (.zip false (.var 2) (.var 3)))) (.cons (.frz 5) (.cons (.ret (.ife (.cmp .NotIn (.lst .nil) (.var 5)) (.lst (.cons (.tup (.cons (.str "row") (.cons (.blt .tuple (.cons (.comp b12_2 (.one 4) (.var 5)) .nil)) .nil))) .nil)) (.lst .nil))) .nil))))))))
def n12 : List Str := ["_law_own", "_law_far", "_law_inside", "_law_more", "_law_part", "_law_parts", "_law_another"]
def p12 : List Str := ["_law_own", "_law_far"]
abbrev s12 : Stmt := top 19 -- _law_joined
def b13_0 : E := (.var 3)
def b13_1 : E := (.not (.call 13 (.cons (.var 3) (.cons (.var 1) (.cons (.bin .Sub (.var 2) (.int 1)) .nil)))))
def b13 : Ss := (.cons (.ite (.isi (.var 0) [.str]) (.cons (.ret (.cmp .In (.var 0) (.tup (.cons (.str "truth") (.cons (.str "number") (.cons (.str "atom") .nil)))))) .nil) .nil) (.cons (.ite (.bop false (.cons (.not (.isi (.var 0) [.tuple])) (.cons (.cmp .NotEq (.blt .len (.cons (.var 0) .nil)) (.int 2)) (.cons (.not (.isi (.idx (.var 0) (.int 0)) [.str])) .nil)))) (.cons (.ret (.bl false)) .nil) .nil) (.cons (.ite (.cmp .Eq (.idx (.var 0) (.int 0)) (.str "set")) (.cons (.ret (.bop true (.cons (.cmp .Gt (.var 1) (.int 0)) (.cons (.bop false (.cons (.isN (.idx (.var 0) (.int 1))) (.cons (.call 13 (.cons (.idx (.var 0) (.int 1)) (.cons (.bin .Sub (.var 1) (.int 1)) (.cons (.var 2) .nil)))) .nil))) .nil)))) .nil) .nil) (.cons (.ite (.bop false (.cons (.cmp .NotEq (.idx (.var 0) (.int 0)) (.str "row")) (.cons (.cmp .Eq (.var 2) (.int 0)) (.cons (.not (.isi (.idx (.var 0) (.int 1)) [.tuple])) (.cons (.not (.chain .Lt .Lt (.int 0) (.blt .len (.cons (.idx (.var 0) (.int 1)) .nil)) (.int 5))) .nil))))) (.cons (.ret (.bl false)) .nil) .nil) (.cons (.ret (.cmp .Eq (.compIf b13_0 (.one 3) (.idx (.var 0) (.int 1)) b13_1) (.lst .nil))) .nil)))))
def n13 : List Str := ["_law_it", "_law_sets", "_law_rows", "_law_part"]
def p13 : List Str := ["_law_it", "_law_sets", "_law_rows"]
abbrev s13 : Stmt := top 20 -- _law_is_kind
def b14 : Ss := (.cons (.set 2 (.lst (.cons .non (.cons (.bl true) (.cons (.int 0) (.cons (.str "") (.cons (.str "Atom") (.cons (.str "truths") (.cons (.str "set") (.cons (.str "row") (.cons (.tup .nil) (.cons (.lst .nil) (.cons .dict0 (.cons (.tup (.cons (.str "set") .nil)) (.cons (.tup (.cons (.str "row") (.cons (.tup .nil) .nil))) (.cons (.tup (.cons (.str "row") (.cons .non .nil))) (.cons (.tup (.cons (.var 1) .nil)) .nil))))))))))))))))) (.cons (.frz 2) (.cons (.set 2 (.bin .Add (.var 2) (.lst (.cons (.tup (.cons (.str "set") (.cons (.var 1) (.cons (.var 1) .nil)))) (.cons (.lst (.cons (.str "set") (.cons (.var 1) .nil))) (.cons (.tup (.cons (.str "row") (.cons (.lst (.cons (.var 1) .nil)) .nil))) (.cons (.tup (.cons (.str "row") (.cons (.bin .Mult (.tup (.cons (.var 1) .nil)) (.int 5)) .nil))) (.cons (.tup (.cons (.str "set") (.cons (.tup (.cons (.var 1) .nil)) .nil))) (.cons (.tup (.cons (.str "row") (.cons (.var 1) .nil))) .nil))))))))) (.cons (.frz 2) (.cons (.ret (.call 7 (.cons (.var 0) (.cons (.bin .Add (.var 2) (.lst (.cons (.tup (.cons (.str "set") (.cons (.tup (.cons (.str "set") (.cons (.tup (.cons (.str "set") (.cons (.var 1) .nil))) .nil))) .nil))) (.cons (.tup (.cons (.str "row") (.cons (.tup (.cons (.tup (.cons (.str "row") (.cons (.tup (.cons (.tup (.cons (.str "row") (.cons (.tup (.cons (.var 1) .nil)) .nil))) .nil)) .nil))) .nil)) .nil))) (.cons (.tup (.cons (.str "atom") (.cons (.var 1) .nil))) .nil))))) .nil)))) .nil)))))
def n14 : List Str := ["_law_deck_here", "_law_it", "_law_some"]
def p14 : List Str := ["_law_deck_here", "_law_it"]
abbrev s14 : Stmt := top 21 -- _law_odd
def b15 : Ss := (.cons (.ite (.bop false (.cons (.not (.isi (.var 1) [.tuple])) (.cons (.cmp .Eq (.var 1) (.tup .nil)) (.cons (.cmp .Eq (.call 6 (.cons (.var 0) (.cons (.int 4) .nil))) (.int 0)) .nil)))) (.cons (.ret (.call 14 (.cons (.var 0) (.cons (.var 1) .nil)))) .nil) .nil) (.cons (.set 2 (.call 6 (.cons (.var 0) (.cons (.blt .len (.cons (.var 1) .nil)) .nil)))) (.cons (.frz 2) (.cons (.ite (.cmp .Eq (.call 6 (.cons (.var 0) (.cons (.int 6) .nil))) (.int 0)) (.cons (.ret (.bin .Add (.slB (.var 1) (.var 2)) (.slA (.var 1) (.bin .Add (.var 2) (.int 1))))) .nil) .nil) (.cons (.ret (.bin .Add (.bin .Add (.slB (.var 1) (.var 2)) (.tup (.cons (.call 15 (.cons (.var 0) (.cons (.idx (.var 1) (.var 2)) .nil))) .nil))) (.slA (.var 1) (.bin .Add (.var 2) (.int 1))))) .nil)))))
def n15 : List Str := ["_law_deck_here", "_law_it", "_law_at"]
def p15 : List Str := ["_law_deck_here", "_law_it"]
abbrev s15 : Stmt := top 22 -- _law_bent
def b16 : Ss := (.cons (.par [1, 2] (.cons (.blt .repr (.cons (.var 0) .nil)) (.cons (.call 13 (.cons (.var 0) (.cons (.int 3) (.cons (.int 3) .nil)))) .nil))) (.cons (.frz 2) (.cons (.ret (.bop true (.cons (.cmp .Eq (.blt .repr (.cons (.lst (.cons (.call 1 (.cons (.var 0) .nil)) (.cons (.callk 1 0 (.cons (.var 0) .nil)) .nil))) .nil)) (.blt .repr (.cons (.lst (.cons (.var 2) (.cons (.var 2) .nil))) .nil))) (.cons (.cmp .Eq (.blt .repr (.cons (.var 0) .nil)) (.var 1)) .nil)))) .nil)))
def n16 : List Str := ["_law_it", "_law_kept", "_law_due"]
def p16 : List Str := ["_law_it"]
abbrev s16 : Stmt := top 23 -- _law_recognized
def b17 : Ss := (.cons (.par [2, 3] (.cons (.idx (.bin .Add (.call 12 (.cons (.var 0) (.cons (.var 1) .nil))) (.lst (.cons .non .nil))) (.int 0)) (.cons (.blt .repr (.cons (.tup (.cons (.var 0) (.cons (.var 1) .nil))) .nil)) .nil))) (.cons (.set 4 (.lst (.cons (.call 2 (.cons (.var 0) (.cons (.var 1) .nil))) (.cons (.call 2 (.cons (.var 1) (.cons (.var 0) .nil))) (.cons (.callk 2 1 (.cons (.var 1) (.cons (.var 0) .nil))) .nil))))) (.cons (.frz 4) (.cons (.ite (.bop false (.cons (.cmp .NotEq (.blt .repr (.cons (.var 4) .nil)) (.blt .repr (.cons (.bin .Mult (.lst (.cons (.var 2) .nil)) (.int 3)) .nil))) (.cons (.cmp .NotEq (.blt .repr (.cons (.tup (.cons (.var 0) (.cons (.var 1) .nil))) .nil)) (.var 3)) .nil))) (.cons (.ret (.bl false)) .nil) .nil) (.cons (.set 5 (.lst (.cons (.call 4 (.cons (.var 0) (.cons (.var 1) .nil))) (.cons (.call 4 (.cons (.var 1) (.cons (.var 0) .nil))) (.cons (.callk 4 2 (.cons (.var 1) (.cons (.var 0) .nil))) .nil))))) (.cons (.frz 5) (.cons (.ret (.cmp .Eq (.blt .repr (.cons (.var 5) .nil)) (.blt .repr (.cons (.lst (.cons (.cmp .Eq (.var 2) (.var 1)) (.cons (.cmp .Eq (.var 2) (.var 0)) (.cons (.cmp .Eq (.var 2) (.var 1)) .nil)))) .nil)))) .nil)))))))
def n17 : List Str := ["_law_own", "_law_far", "_law_due", "_law_kept", "_law_found", "_law_told"]
def p17 : List Str := ["_law_own", "_law_far"]
abbrev s17 : Stmt := top 24 -- _law_pair_right
def b18_0 : Ss := (.cons (.set 4 (.call 2 (.cons (.call 2 (.cons (.idx (.var 0) (.var 1)) (.cons (.idx (.var 0) (.var 2)) .nil))) (.cons (.idx (.var 0) (.var 3)) .nil)))) (.cons (.frz 4) (.cons (.ite (.bop false (.cons (.isN (.var 4)) (.cons (.cmp .NotEq (.var 4) (.call 2 (.cons (.call 2 (.cons (.idx (.var 0) (.int 0)) (.cons (.idx (.var 0) (.int 1)) .nil))) (.cons (.idx (.var 0) (.int 2)) .nil)))) .nil))) (.cons (.ret (.bl false)) .nil) .nil) .nil)))
def b18 : Ss := (.cons (.loop (.many [1, 2, 3]) (.tup (.cons (.tup (.cons (.int 0) (.cons (.int 1) (.cons (.int 2) .nil)))) (.cons (.tup (.cons (.int 1) (.cons (.int 2) (.cons (.int 0) .nil)))) (.cons (.tup (.cons (.int 2) (.cons (.int 0) (.cons (.int 1) .nil)))) .nil)))) b18_0) (.cons (.ret (.bl true)) .nil))
def n18 : List Str := ["_law_some", "_law_at", "_law_beside", "_law_last", "_law_told"]
def p18 : List Str := ["_law_some"]
abbrev s18 : Stmt := top 25 -- _law_three_right
def b19_0 : Ss := (.cons (.set 4 (.idx (.lst (.cons (.tup (.cons (.str "set") (.cons (.tup (.cons (.str "set") (.cons (.var 4) .nil))) .nil))) (.cons (.tup (.cons (.str "row") (.cons (.tup (.cons (.var 4) .nil)) .nil))) (.cons (.lst (.cons (.lst (.cons (.var 4) .nil)) .nil)) (.cons (.dict1 (.str "set") (.dict1 (.str "row") (.var 4))) .nil))))) (.var 3))) .nil)
def b19_1 : Ss := (.cons (.set 4 (.var 2)) (.cons (.loop (.one 5) (.rng1 (.int 14)) b19_0) (.cons (.app 1 (.var 4)) .nil)))
def b19 : Ss := (.cons (.par [1, 2] (.cons (.lst .nil) (.cons (.call 7 (.cons (.var 0) (.cons (.lst (.cons (.str "atom") (.cons (.str "truth") (.cons .non (.cons (.int 7) (.cons (.tup .nil) .nil)))))) .nil))) .nil))) (.cons (.frz 2) (.cons (.loop (.one 3) (.rng1 (.int 4)) b19_1) (.cons (.ret (.bin .Add (.var 1) (.lst (.cons (.tup (.cons (.str "row") (.cons (.bin .Mult (.tup (.cons (.str "atom") .nil)) (.int 2900)) .nil))) (.cons (.bin .Mult (.lst (.cons (.str "atom") .nil)) (.int 2900)) (.cons (.tup (.cons (.str "set") (.cons (.bin .Mult (.str "a") (.int 2000)) .nil))) .nil)))))) .nil))))
def n19 : List Str := ["_law_deck_here", "_law_found", "_law_inner", "_law_way", "_law_it", "_law_k"]
def p19 : List Str := ["_law_deck_here"]
abbrev s19 : Stmt := top 26 -- _law_deep_things
def b20_0 : E := (.var 2)
def b20_1 : E := (.not (.call 16 (.cons (.var 2) .nil)))
def b20_2 : E := (.call 10 (.cons (.var 1) (.cons (.var 4) .nil)))
def b20_3 : E := (.var 2)
def b20_4 : E := (.not (.call 16 (.cons (.var 2) .nil)))
def b20_5 : E := (.var 2)
def b20_6 : E := (.call 15 (.cons (.var 1) (.cons (.var 4) .nil)))
def b20_7 : E := (.not (.call 16 (.cons (.var 2) .nil)))
def b20_8 : E := (.var 2)
def b20_9 : E := (.call 13 (.cons (.var 2) (.cons (.int 3) (.cons (.int 3) .nil))))
def b20_10 : Ss := (.cons (.ite (.bop false (.cons (.not (.call 17 (.cons (.var 4) (.cons (.var 8) .nil)))) (.cons (.not (.call 17 (.cons (.idx (.var 5) (.int 1)) (.cons (.var 8) .nil)))) .nil))) (.cons (.ret (.bl false)) .nil) .nil) .nil)
def b20_11 : Ss := (.cons (.set 4 (.ife (.cmp .Eq (.bin .Mod (.var 3) (.int 4)) (.int 3)) (.call 9 (.cons (.var 1) .nil)) (.call 8 (.cons (.var 1) (.cons (.int 3) (.cons (.int 3) .nil)))))) (.cons (.frz 4) (.cons (.setLc 5 (.comp b20_2 (.one 6) (.rng1 (.int 3)))) (.cons (.frz 5) (.cons (.set 7 (.bin .Add (.var 5) (.lst (.cons (.var 4) (.cons (.call 11 (.cons (.var 1) (.cons (.var 4) .nil))) (.cons (.call 11 (.cons (.var 1) (.cons (.idx (.var 5) (.int 0)) .nil))) (.cons (.call 8 (.cons (.var 1) (.cons (.int 3) (.cons (.int 3) .nil)))) .nil))))))) (.cons (.frz 7) (.cons (.ite (.bop false (.cons (.not (.call 13 (.cons (.var 4) (.cons (.int 3) (.cons (.int 3) .nil))))) (.cons (.cmp .NotEq (.compIf b20_3 (.one 2) (.var 7) b20_4) (.lst .nil)) .nil))) (.cons (.ret (.bl false)) .nil) .nil) (.cons (.ite (.cmp .NotEq (.compIf b20_5 (.one 2) (.comp b20_6 (.one 6) (.rng1 (.int 6))) b20_7) (.lst .nil)) (.cons (.ret (.bl false)) .nil) .nil) (.cons (.loop (.one 8) (.compIf b20_8 (.one 2) (.var 7) b20_9) b20_10) (.cons (.ite (.not (.call 18 (.cons (.var 5) .nil))) (.cons (.ret (.bl false)) .nil) .nil) .nil))))))))))
def b20 : Ss := (.cons (.set 1 (.call 5 (.cons (.var 0) .nil))) (.cons (.ite (.cmp .NotEq (.compIf b20_0 (.one 2) (.call 19 (.cons (.var 1) .nil)) b20_1) (.lst .nil)) (.cons (.ret (.bl false)) .nil) .nil) (.cons (.loop (.one 3) (.rng1 (.int 12)) b20_11) (.cons (.ret (.bl true)) .nil))))
def n20 : List Str := ["_law_script", "_law_deck_here", "_law_it", "_law_turn", "_law_own", "_law_some", "_law_k", "_law_more", "_law_far"]
def p20 : List Str := ["_law_script"]
abbrev s20 : Stmt := top 27 -- law
def fds : List FD := [⟨b0, 3, 6⟩, ⟨b1, 1, 1⟩, ⟨b2, 2, 3⟩, ⟨b3, 2, 5⟩, ⟨b4, 2, 2⟩, ⟨b5, 1, 4⟩, ⟨b6, 2, 4⟩, ⟨b7, 2, 2⟩, ⟨b8, 3, 5⟩, ⟨b9, 1, 4⟩, ⟨b10, 2, 3⟩, ⟨b11, 2, 3⟩, ⟨b12, 2, 7⟩, ⟨b13, 3, 4⟩, ⟨b14, 2, 3⟩, ⟨b15, 2, 3⟩, ⟨b16, 1, 3⟩, ⟨b17, 2, 6⟩, ⟨b18, 1, 5⟩, ⟨b19, 1, 6⟩, ⟨b20, 1, 9⟩]
def gld : List PyData := [(.tuple [(.str "truth"), (.str "number"), (.str "atom")]), (.str "set"), (.str "row"), (.int 4), (.int 3)]
def kwl : List (List Nat) := [[0], [1, 0], [1, 0]]
def Pg : Prog := ⟨fds, gld, kwl, WF⟩
def cs : List (Str × Cst) := [("PLAIN_KINDS", .tup [.str "truth", .str "number", .str "atom"]), ("SET", .str "set"), ("ROW", .str "row"), ("LONGEST_ROW", .int 4), ("MOST_NESTED", .int 3)]
def r0 : Row := ⟨"is_kind_within", s0, n0, p0, ⟨b0, 3, 6⟩⟩
def r1 : Row := ⟨"is_kind", s1, n1, p1, ⟨b1, 1, 1⟩⟩
def r2 : Row := ⟨"join_kinds", s2, n2, p2, ⟨b2, 2, 3⟩⟩
def r3 : Row := ⟨"join_rows", s3, n3, p3, ⟨b3, 2, 5⟩⟩
def r4 : Row := ⟨"fits", s4, n4, p4, ⟨b4, 2, 2⟩⟩
def r5 : Row := ⟨"_law_deck", s5, n5, p5, ⟨b5, 1, 4⟩⟩
def r6 : Row := ⟨"_law_draw", s6, n6, p6, ⟨b6, 2, 4⟩⟩
def r7 : Row := ⟨"_law_pick", s7, n7, p7, ⟨b7, 2, 2⟩⟩
def r8 : Row := ⟨"_law_kind", s8, n8, p8, ⟨b8, 3, 5⟩⟩
def r9 : Row := ⟨"_law_deep", s9, n9, p9, ⟨b9, 1, 4⟩⟩
def r10 : Row := ⟨"_law_loosened", s10, n10, p10, ⟨b10, 2, 3⟩⟩
def r11 : Row := ⟨"_law_changed", s11, n11, p11, ⟨b11, 2, 3⟩⟩
def r12 : Row := ⟨"_law_joined", s12, n12, p12, ⟨b12, 2, 7⟩⟩
def r13 : Row := ⟨"_law_is_kind", s13, n13, p13, ⟨b13, 3, 4⟩⟩
def r14 : Row := ⟨"_law_odd", s14, n14, p14, ⟨b14, 2, 3⟩⟩
def r15 : Row := ⟨"_law_bent", s15, n15, p15, ⟨b15, 2, 3⟩⟩
def r16 : Row := ⟨"_law_recognized", s16, n16, p16, ⟨b16, 1, 3⟩⟩
def r17 : Row := ⟨"_law_pair_right", s17, n17, p17, ⟨b17, 2, 6⟩⟩
def r18 : Row := ⟨"_law_three_right", s18, n18, p18, ⟨b18, 1, 5⟩⟩
def r19 : Row := ⟨"_law_deep_things", s19, n19, p19, ⟨b19, 1, 6⟩⟩
def r20 : Row := ⟨"law", s20, n20, p20, ⟨b20, 1, 9⟩⟩
def rows : List Row := [r0, r1, r2, r3, r4, r5, r6, r7, r8, r9, r10, r11, r12, r13, r14, r15, r16, r17, r18, r19, r20]
def T : Tab := ⟨[("is_kind_within", 3), ("is_kind", 1), ("join_kinds", 2), ("join_rows", 2), ("fits", 2), ("_law_deck", 1), ("_law_draw", 2), ("_law_pick", 2), ("_law_kind", 3), ("_law_deep", 1), ("_law_loosened", 2), ("_law_changed", 2), ("_law_joined", 2), ("_law_is_kind", 3), ("_law_odd", 2), ("_law_bent", 2), ("_law_recognized", 1), ("_law_pair_right", 2), ("_law_three_right", 1), ("_law_deep_things", 1), ("law", 1)], ["isinstance", "str", "tuple", "len", "all", "zip", "list", "range", "repr"], ["PLAIN_KINDS", "SET", "ROW", "LONGEST_ROW", "MOST_NESTED"], [(1, ["thing"]), (2, ["other", "kind"]), (4, ["other", "kind"])]⟩
theorem bd0 : BindR r0 := fun _ _ _ _ _ _ us hl => match us, hl with | [_, _, _], _ => rfl
theorem bd1 : BindR r1 := fun _ _ _ _ _ _ us hl => match us, hl with | [_], _ => rfl
theorem bd2 : BindR r2 := fun _ _ _ _ _ _ us hl => match us, hl with | [_, _], _ => rfl
theorem bd3 : BindR r3 := fun _ _ _ _ _ _ us hl => match us, hl with | [_, _], _ => rfl
theorem bd4 : BindR r4 := fun _ _ _ _ _ _ us hl => match us, hl with | [_, _], _ => rfl
theorem bd5 : BindR r5 := fun _ _ _ _ _ _ us hl => match us, hl with | [_], _ => rfl
theorem bd6 : BindR r6 := fun _ _ _ _ _ _ us hl => match us, hl with | [_, _], _ => rfl
theorem bd7 : BindR r7 := fun _ _ _ _ _ _ us hl => match us, hl with | [_, _], _ => rfl
theorem bd8 : BindR r8 := fun _ _ _ _ _ _ us hl => match us, hl with | [_, _, _], _ => rfl
theorem bd9 : BindR r9 := fun _ _ _ _ _ _ us hl => match us, hl with | [_], _ => rfl
theorem bd10 : BindR r10 := fun _ _ _ _ _ _ us hl => match us, hl with | [_, _], _ => rfl
theorem bd11 : BindR r11 := fun _ _ _ _ _ _ us hl => match us, hl with | [_, _], _ => rfl
theorem bd12 : BindR r12 := fun _ _ _ _ _ _ us hl => match us, hl with | [_, _], _ => rfl
theorem bd13 : BindR r13 := fun _ _ _ _ _ _ us hl => match us, hl with | [_, _, _], _ => rfl
theorem bd14 : BindR r14 := fun _ _ _ _ _ _ us hl => match us, hl with | [_, _], _ => rfl
theorem bd15 : BindR r15 := fun _ _ _ _ _ _ us hl => match us, hl with | [_, _], _ => rfl
theorem bd16 : BindR r16 := fun _ _ _ _ _ _ us hl => match us, hl with | [_], _ => rfl
theorem bd17 : BindR r17 := fun _ _ _ _ _ _ us hl => match us, hl with | [_, _], _ => rfl
theorem bd18 : BindR r18 := fun _ _ _ _ _ _ us hl => match us, hl with | [_], _ => rfl
theorem bd19 : BindR r19 := fun _ _ _ _ _ _ us hl => match us, hl with | [_], _ => rfl
theorem bd20 : BindR r20 := fun _ _ _ _ _ _ us hl => match us, hl with | [_], _ => rfl
theorem kb0 : KwR r1 ["thing"] [0] := fun _ _ _ _ _ _ us hl => match us, hl with | [_], _ => rfl
theorem kb1 : KwR r2 ["other", "kind"] [1, 0] := fun _ _ _ _ _ _ us hl => match us, hl with | [_, _], _ => rfl
theorem kb2 : KwR r4 ["other", "kind"] [1, 0] := fun _ _ _ _ _ _ us hl => match us, hl with | [_, _], _ => rfl
theorem rowsOk : RowsOk rows T Pg cs where
  fns := by kernel_rfl
  defs := by kernel_rfl
  chk := by kernel_rfl
  bnd := fun r hr => by
    simp only [rows, List.mem_cons, List.not_mem_nil, or_false] at hr
    rcases hr with rfl | rfl | rfl | rfl | rfl | rfl | rfl | rfl | rfl | rfl | rfl | rfl | rfl | rfl | rfl | rfl | rfl | rfl | rfl | rfl | rfl
    · exact bd0
    · exact bd1
    · exact bd2
    · exact bd3
    · exact bd4
    · exact bd5
    · exact bd6
    · exact bd7
    · exact bd8
    · exact bd9
    · exact bd10
    · exact bd11
    · exact bd12
    · exact bd13
    · exact bd14
    · exact bd15
    · exact bd16
    · exact bd17
    · exact bd18
    · exact bd19
    · exact bd20
  gls := by kernel_rfl
  gl := by kernel_rfl
  kws := fun kn i ks h => by
    match kn, h with
    | 0, h => cases h; exact ⟨_, r1, rfl, rfl, kb0⟩
    | 1, h => cases h; exact ⟨_, r2, rfl, rfl, kb1⟩
    | 2, h => cases h; exact ⟨_, r4, rfl, rfl, kb2⟩
    | _ + 3, h => cases h
end K06

set_option maxHeartbeats 4000000
/-! k06: what the defs reckon: is it a kind? -/
namespace K06
open PySem TA TM
abbrev CX (n : Nat) : TA.Ctx := ⟨callD Pg n, Pg.gl, Pg.kws, Pg.wf⟩
abbrev pl (x : Str) : Bool := ("truth" : Str) == x || (("number" : Str) == x || (("atom" : Str) == x || false))
def isK : Nat → Nat → Nat → PyData → Bool
  | 0, _, _, _ => false
  | n + 1, s, r, d => match d with
    | .str x => pl x
    | .tuple [.str w, i] =>
      if w = "set" then decide (0 < s) && (isNone i || isK n (s - 1) r i)
      else if w = "row" ∧ 0 < r then match i with
        | .tuple ks => decide (1 ≤ ks.length ∧ ks.length ≤ 4) && ks.all (isK n s (r - 1))
        | _ => false
      else false
    | _ => false
theorem in_plain (x : Str) : cmpD .In (.str x) (.tuple [.str "truth", .str "number", .str "atom"]) = some (pl x) := by
  simp [cmpD, isFlat, PyData.eqv, pl]
theorem gl0 : Pg.gl[0]? = some (.tuple [.str "truth", .str "number", .str "atom"]) := rfl
theorem gl1 : Pg.gl[1]? = some (.str "set") := rfl
theorem gl2 : Pg.gl[2]? = some (.str "row") := rfl
theorem gl3 : Pg.gl[3]? = some (.int 4) := rfl
theorem gl4 : Pg.gl[4]? = some (.int 3) := rfl
theorem lenNe (a b c : PyData) (r : List PyData) : cmpD .NotEq (.int ((a :: b :: c :: r).length : Int)) (.int 2) = some true := by
  have : ((a :: b :: c :: r).length : Int) ≠ 2 := by simp; omega
  simp [cmpD, SeqAt.shaped, PyData.canLay0, PyData.depth, PyData.eqv]
  omega
theorem sub1 {s : Nat} (h : 0 < s) : binD .Sub (.int s) (.int 1) = some (.d (.int ((s - 1 : Nat) : Int))) := by
  have : (s : Int) - 1 = ((s - 1 : Nat) : Int) := by omega
  simp only [binD, this]
theorem gt0 (s : Nat) : cmpD .Gt (.int s) (.int 0) = some (decide (0 < s)) := by
  simp only [cmpD]; congr 1; simp
theorem eq0 (s : Nat) : cmpD .Eq (.int s) (.int 0) = some (decide (s = 0)) := by
  simp [cmpD, SeqAt.shaped, PyData.canLay0, PyData.depth, PyData.eqv]
  cases s <;> simp <;> omega
theorem eqS {a b : Str} : cmpD .Eq (.str a) (.str b) = some (a == b) := rfl
theorem neS {a b : Str} : cmpD .NotEq (.str a) (.str b) = some (!(a == b)) := rfl
theorem leI {a b : Int} : cmpD .LtE (.int a) (.int b) = some (decide (a ≤ b)) := rfl
theorem ltI {a b : Int} : cmpD .Lt (.int a) (.int b) = some (decide (a < b)) := rfl
theorem gtI {a b : Int} : cmpD .Gt (.int a) (.int b) = some (decide (b < a)) := rfl
theorem geI {a b : Int} : cmpD .GtE (.int a) (.int b) = some (decide (b ≤ a)) := rfl
theorem eqNil (xs : List PyData) : cmpD .Eq (.list xs) (.list []) = some xs.isEmpty := by cases xs <;> rfl
theorem filt_all {f : PyData → Bool} : ∀ ks : List PyData, (ks.filter fun x => !f x).isEmpty = ks.all f
  | [] => rfl
  | x :: r => by
    have ih := filt_all (f := f) r
    cases h : f x <;> simp [List.filter_cons, h, ih]
theorem srcL_ok {xs : List PyData} (h : xs.length ≤ sizeLine) : srcL xs = some xs := if_pos h
theorem all_map {f : PyData → Bool} {ks : List PyData} : allB (.list (ks.map fun x => .bool (f x))) = some (.d (.bool (ks.all f))) := by
  have e : ks.map (fun x => PyData.bool (f x)) = (ks.map f).map .bool := by rw [List.map_map]; rfl
  rw [allB, e, boolsD_map]
  simp [List.all_map]
theorem within_ok : ∀ (n s r : Nat) (d : PyData) (k : OD), s + r < n → callD Pg n 0 [.d d, .d (.int s), .d (.int r)] k = some (.d (.bool (isK n s r d)), k)
  | 0, _, _, _, _, h => absurd h (Nat.not_lt_zero _)
  | n + 1, s, r, d, k, h => by
    show endOf (evSs (CX n) b0 [some (.d d), some (.d (.int s)), some (.d (.int r)), none, none, none] k) = _
    unfold b0
    cases d with
    | str x => simp only [bO_some, bO_none, lO_some, lO_none, iB_t, iB_f, thn_nx, thn_rt, thn_bk, thn_ct, endOf_rt, endOf_nx, kLift_a, kOk_a, kO2_a, kIte_t, kIte_f, kIfe_t, kIfe_f, kCall_a, kArgs_a, kArgs2_a, kVals_a, kVals2_a, kOpd_a, kOpd2_a, kDat_a, kDat2_a, kBV_a, kBV2_tt, kBV2_ff, kBV2_tf, kBV2_ft, kBT_tt, kBT_ff, kBT_tf, kBT_ft, kComp_a, kSrc_a, kChain_a, kChain2_a, kChain3_t, kChain3_f, kSet_a, kPar_a, kUnp_a, kFor_a, gV_d, gV_dk, gO_d, gO_o, var_v, var_o, var_t, oV_d, oV_own, tV_d, tV_own, vB_s, oB_s, non_v, non_o, bl_v, bl_o, bl_t, int_v, int_o, str_v, str_o, glb_v, glb_o, tup_v, tup_o, lst_v, lst_o, bin_v, bin_o, bin_t, cmp_t, cmp_v, cmp_o, isN_t, isN_v, isi_t, isi_v, not_t, bop_v, bop_o, bop_t, ife_v, ife_o, idx_v, idx_o, slA_v, slA_o, slB_v, slB_o, call_v, call_o, call_t, callk_v, blt_v, blt_o, comp_v, comp_o, compIf_v, compIf_o, dict0_v, dict1_v, src_eq, rng1_v, zip_v, chain_t, as_nl, as_cs, ds_nl, ds_cs, os_nl, os_cs, vs_nl, vs_cs, es_nl, es_cs, bv_1, bv_2, bt_1, bt_2, s_nil, s_cons, s_set, s_setLc, s_par, s_unp, s_ite, s_loop, s_frz, s_app, rt_non, rt_bl, rt_int, rt_str, rt_glb, rt_tup, rt_lst, rt_bin, rt_cmp, rt_chain, rt_isN, rt_not, rt_bop, rt_ife, rt_idx, rt_slA, rt_slB, rt_call, rt_callk, rt_blt, rt_comp, rt_compIf, rt_isi, gR_s, rt_var, DV.dat, DV.fz, List.getElem?_cons_zero, List.getElem?_cons_succ, List.set_cons_zero, List.set_cons_succ, Option.map_some, Option.map_none, Option.bind_some, Option.bind_none, List.any_cons, List.any_nil, Bool.or_false, Bool.false_or, Bool.or_true, Bool.true_or, Bool.not_true, Bool.not_false, isTy, bltD, blt1, blt2, truthD, intD, setAll, setMany, leI, gl3, gl0, in_plain, isK]
    | tuple xs =>
      match xs with
      | [] => simp only [bO_some, bO_none, lO_some, lO_none, iB_t, iB_f, thn_nx, thn_rt, thn_bk, thn_ct, endOf_rt, endOf_nx, kLift_a, kOk_a, kO2_a, kIte_t, kIte_f, kIfe_t, kIfe_f, kCall_a, kArgs_a, kArgs2_a, kVals_a, kVals2_a, kOpd_a, kOpd2_a, kDat_a, kDat2_a, kBV_a, kBV2_tt, kBV2_ff, kBV2_tf, kBV2_ft, kBT_tt, kBT_ff, kBT_tf, kBT_ft, kComp_a, kSrc_a, kChain_a, kChain2_a, kChain3_t, kChain3_f, kSet_a, kPar_a, kUnp_a, kFor_a, gV_d, gV_dk, gO_d, gO_o, var_v, var_o, var_t, oV_d, oV_own, tV_d, tV_own, vB_s, oB_s, non_v, non_o, bl_v, bl_o, bl_t, int_v, int_o, str_v, str_o, glb_v, glb_o, tup_v, tup_o, lst_v, lst_o, bin_v, bin_o, bin_t, cmp_t, cmp_v, cmp_o, isN_t, isN_v, isi_t, isi_v, not_t, bop_v, bop_o, bop_t, ife_v, ife_o, idx_v, idx_o, slA_v, slA_o, slB_v, slB_o, call_v, call_o, call_t, callk_v, blt_v, blt_o, comp_v, comp_o, compIf_v, compIf_o, dict0_v, dict1_v, src_eq, rng1_v, zip_v, chain_t, as_nl, as_cs, ds_nl, ds_cs, os_nl, os_cs, vs_nl, vs_cs, es_nl, es_cs, bv_1, bv_2, bt_1, bt_2, s_nil, s_cons, s_set, s_setLc, s_par, s_unp, s_ite, s_loop, s_frz, s_app, rt_non, rt_bl, rt_int, rt_str, rt_glb, rt_tup, rt_lst, rt_bin, rt_cmp, rt_chain, rt_isN, rt_not, rt_bop, rt_ife, rt_idx, rt_slA, rt_slB, rt_call, rt_callk, rt_blt, rt_comp, rt_compIf, rt_isi, gR_s, rt_var, DV.dat, DV.fz, List.getElem?_cons_zero, List.getElem?_cons_succ, List.set_cons_zero, List.set_cons_succ, Option.map_some, Option.map_none, Option.bind_some, Option.bind_none, List.any_cons, List.any_nil, Bool.or_false, Bool.false_or, Bool.or_true, Bool.true_or, Bool.not_true, Bool.not_false, isTy, bltD, blt1, blt2, truthD, intD, setAll, setMany, leI, gl3, isK, lenB, lenD]; rfl
      | [_] => simp only [bO_some, bO_none, lO_some, lO_none, iB_t, iB_f, thn_nx, thn_rt, thn_bk, thn_ct, endOf_rt, endOf_nx, kLift_a, kOk_a, kO2_a, kIte_t, kIte_f, kIfe_t, kIfe_f, kCall_a, kArgs_a, kArgs2_a, kVals_a, kVals2_a, kOpd_a, kOpd2_a, kDat_a, kDat2_a, kBV_a, kBV2_tt, kBV2_ff, kBV2_tf, kBV2_ft, kBT_tt, kBT_ff, kBT_tf, kBT_ft, kComp_a, kSrc_a, kChain_a, kChain2_a, kChain3_t, kChain3_f, kSet_a, kPar_a, kUnp_a, kFor_a, gV_d, gV_dk, gO_d, gO_o, var_v, var_o, var_t, oV_d, oV_own, tV_d, tV_own, vB_s, oB_s, non_v, non_o, bl_v, bl_o, bl_t, int_v, int_o, str_v, str_o, glb_v, glb_o, tup_v, tup_o, lst_v, lst_o, bin_v, bin_o, bin_t, cmp_t, cmp_v, cmp_o, isN_t, isN_v, isi_t, isi_v, not_t, bop_v, bop_o, bop_t, ife_v, ife_o, idx_v, idx_o, slA_v, slA_o, slB_v, slB_o, call_v, call_o, call_t, callk_v, blt_v, blt_o, comp_v, comp_o, compIf_v, compIf_o, dict0_v, dict1_v, src_eq, rng1_v, zip_v, chain_t, as_nl, as_cs, ds_nl, ds_cs, os_nl, os_cs, vs_nl, vs_cs, es_nl, es_cs, bv_1, bv_2, bt_1, bt_2, s_nil, s_cons, s_set, s_setLc, s_par, s_unp, s_ite, s_loop, s_frz, s_app, rt_non, rt_bl, rt_int, rt_str, rt_glb, rt_tup, rt_lst, rt_bin, rt_cmp, rt_chain, rt_isN, rt_not, rt_bop, rt_ife, rt_idx, rt_slA, rt_slB, rt_call, rt_callk, rt_blt, rt_comp, rt_compIf, rt_isi, gR_s, rt_var, DV.dat, DV.fz, List.getElem?_cons_zero, List.getElem?_cons_succ, List.set_cons_zero, List.set_cons_succ, Option.map_some, Option.map_none, Option.bind_some, Option.bind_none, List.any_cons, List.any_nil, Bool.or_false, Bool.false_or, Bool.or_true, Bool.true_or, Bool.not_true, Bool.not_false, isTy, bltD, blt1, blt2, truthD, intD, setAll, setMany, leI, gl3, isK, lenB, lenD]; rfl
      | a :: b :: c :: r' => simp only [bO_some, bO_none, lO_some, lO_none, iB_t, iB_f, thn_nx, thn_rt, thn_bk, thn_ct, endOf_rt, endOf_nx, kLift_a, kOk_a, kO2_a, kIte_t, kIte_f, kIfe_t, kIfe_f, kCall_a, kArgs_a, kArgs2_a, kVals_a, kVals2_a, kOpd_a, kOpd2_a, kDat_a, kDat2_a, kBV_a, kBV2_tt, kBV2_ff, kBV2_tf, kBV2_ft, kBT_tt, kBT_ff, kBT_tf, kBT_ft, kComp_a, kSrc_a, kChain_a, kChain2_a, kChain3_t, kChain3_f, kSet_a, kPar_a, kUnp_a, kFor_a, gV_d, gV_dk, gO_d, gO_o, var_v, var_o, var_t, oV_d, oV_own, tV_d, tV_own, vB_s, oB_s, non_v, non_o, bl_v, bl_o, bl_t, int_v, int_o, str_v, str_o, glb_v, glb_o, tup_v, tup_o, lst_v, lst_o, bin_v, bin_o, bin_t, cmp_t, cmp_v, cmp_o, isN_t, isN_v, isi_t, isi_v, not_t, bop_v, bop_o, bop_t, ife_v, ife_o, idx_v, idx_o, slA_v, slA_o, slB_v, slB_o, call_v, call_o, call_t, callk_v, blt_v, blt_o, comp_v, comp_o, compIf_v, compIf_o, dict0_v, dict1_v, src_eq, rng1_v, zip_v, chain_t, as_nl, as_cs, ds_nl, ds_cs, os_nl, os_cs, vs_nl, vs_cs, es_nl, es_cs, bv_1, bv_2, bt_1, bt_2, s_nil, s_cons, s_set, s_setLc, s_par, s_unp, s_ite, s_loop, s_frz, s_app, rt_non, rt_bl, rt_int, rt_str, rt_glb, rt_tup, rt_lst, rt_bin, rt_cmp, rt_chain, rt_isN, rt_not, rt_bop, rt_ife, rt_idx, rt_slA, rt_slB, rt_call, rt_callk, rt_blt, rt_comp, rt_compIf, rt_isi, gR_s, rt_var, DV.dat, DV.fz, List.getElem?_cons_zero, List.getElem?_cons_succ, List.set_cons_zero, List.set_cons_succ, Option.map_some, Option.map_none, Option.bind_some, Option.bind_none, List.any_cons, List.any_nil, Bool.or_false, Bool.false_or, Bool.or_true, Bool.true_or, Bool.not_true, Bool.not_false, isTy, bltD, blt1, blt2, truthD, intD, setAll, setMany, leI, gl3, isK, lenB, lenD, lenNe]
      | [w, i] =>
        have l2 : cmpD .NotEq (.int (([w, i] : List PyData).length : Int)) (.int 2) = some false := rfl
        have i0 : idxV (.tuple [w, i]) (.int 0) = some (.d w) := rfl
        cases w with
        | str w =>
          simp only [bO_some, bO_none, lO_some, lO_none, iB_t, iB_f, thn_nx, thn_rt, thn_bk, thn_ct, endOf_rt, endOf_nx, kLift_a, kOk_a, kO2_a, kIte_t, kIte_f, kIfe_t, kIfe_f, kCall_a, kArgs_a, kArgs2_a, kVals_a, kVals2_a, kOpd_a, kOpd2_a, kDat_a, kDat2_a, kBV_a, kBV2_tt, kBV2_ff, kBV2_tf, kBV2_ft, kBT_tt, kBT_ff, kBT_tf, kBT_ft, kComp_a, kSrc_a, kChain_a, kChain2_a, kChain3_t, kChain3_f, kSet_a, kPar_a, kUnp_a, kFor_a, gV_d, gV_dk, gO_d, gO_o, var_v, var_o, var_t, oV_d, oV_own, tV_d, tV_own, vB_s, oB_s, non_v, non_o, bl_v, bl_o, bl_t, int_v, int_o, str_v, str_o, glb_v, glb_o, tup_v, tup_o, lst_v, lst_o, bin_v, bin_o, bin_t, cmp_t, cmp_v, cmp_o, isN_t, isN_v, isi_t, isi_v, not_t, bop_v, bop_o, bop_t, ife_v, ife_o, idx_v, idx_o, slA_v, slA_o, slB_v, slB_o, call_v, call_o, call_t, callk_v, blt_v, blt_o, comp_v, comp_o, compIf_v, compIf_o, dict0_v, dict1_v, src_eq, rng1_v, zip_v, chain_t, as_nl, as_cs, ds_nl, ds_cs, os_nl, os_cs, vs_nl, vs_cs, es_nl, es_cs, bv_1, bv_2, bt_1, bt_2, s_nil, s_cons, s_set, s_setLc, s_par, s_unp, s_ite, s_loop, s_frz, s_app, rt_non, rt_bl, rt_int, rt_str, rt_glb, rt_tup, rt_lst, rt_bin, rt_cmp, rt_chain, rt_isN, rt_not, rt_bop, rt_ife, rt_idx, rt_slA, rt_slB, rt_call, rt_callk, rt_blt, rt_comp, rt_compIf, rt_isi, gR_s, rt_var, DV.dat, DV.fz, List.getElem?_cons_zero, List.getElem?_cons_succ, List.set_cons_zero, List.set_cons_succ, Option.map_some, Option.map_none, Option.bind_some, Option.bind_none, List.any_cons, List.any_nil, Bool.or_false, Bool.false_or, Bool.or_true, Bool.true_or, Bool.not_true, Bool.not_false, isTy, bltD, blt1, blt2, truthD, intD, setAll, setMany, leI, gl3, lenB, lenD, l2, i0, gl1, eqS]
          by_cases hw : w = "set"
          · subst hw
            simp only [bO_some, bO_none, lO_some, lO_none, iB_t, iB_f, thn_nx, thn_rt, thn_bk, thn_ct, endOf_rt, endOf_nx, kLift_a, kOk_a, kO2_a, kIte_t, kIte_f, kIfe_t, kIfe_f, kCall_a, kArgs_a, kArgs2_a, kVals_a, kVals2_a, kOpd_a, kOpd2_a, kDat_a, kDat2_a, kBV_a, kBV2_tt, kBV2_ff, kBV2_tf, kBV2_ft, kBT_tt, kBT_ff, kBT_tf, kBT_ft, kComp_a, kSrc_a, kChain_a, kChain2_a, kChain3_t, kChain3_f, kSet_a, kPar_a, kUnp_a, kFor_a, gV_d, gV_dk, gO_d, gO_o, var_v, var_o, var_t, oV_d, oV_own, tV_d, tV_own, vB_s, oB_s, non_v, non_o, bl_v, bl_o, bl_t, int_v, int_o, str_v, str_o, glb_v, glb_o, tup_v, tup_o, lst_v, lst_o, bin_v, bin_o, bin_t, cmp_t, cmp_v, cmp_o, isN_t, isN_v, isi_t, isi_v, not_t, bop_v, bop_o, bop_t, ife_v, ife_o, idx_v, idx_o, slA_v, slA_o, slB_v, slB_o, call_v, call_o, call_t, callk_v, blt_v, blt_o, comp_v, comp_o, compIf_v, compIf_o, dict0_v, dict1_v, src_eq, rng1_v, zip_v, chain_t, as_nl, as_cs, ds_nl, ds_cs, os_nl, os_cs, vs_nl, vs_cs, es_nl, es_cs, bv_1, bv_2, bt_1, bt_2, s_nil, s_cons, s_set, s_setLc, s_par, s_unp, s_ite, s_loop, s_frz, s_app, rt_non, rt_bl, rt_int, rt_str, rt_glb, rt_tup, rt_lst, rt_bin, rt_cmp, rt_chain, rt_isN, rt_not, rt_bop, rt_ife, rt_idx, rt_slA, rt_slB, rt_call, rt_callk, rt_blt, rt_comp, rt_compIf, rt_isi, gR_s, rt_var, DV.dat, DV.fz, List.getElem?_cons_zero, List.getElem?_cons_succ, List.set_cons_zero, List.set_cons_succ, Option.map_some, Option.map_none, Option.bind_some, Option.bind_none, List.any_cons, List.any_nil, Bool.or_false, Bool.false_or, Bool.or_true, Bool.true_or, Bool.not_true, Bool.not_false, isTy, bltD, blt1, blt2, truthD, intD, setAll, setMany, leI, gl3, beq_self_eq_true, gt0, isK, if_true]
            by_cases hs : 0 < s
            · have ih := within_ok n (s - 1) r i k (by omega)
              cases hi : isNone i <;> simp only [bO_some, bO_none, lO_some, lO_none, iB_t, iB_f, thn_nx, thn_rt, thn_bk, thn_ct, endOf_rt, endOf_nx, kLift_a, kOk_a, kO2_a, kIte_t, kIte_f, kIfe_t, kIfe_f, kCall_a, kArgs_a, kArgs2_a, kVals_a, kVals2_a, kOpd_a, kOpd2_a, kDat_a, kDat2_a, kBV_a, kBV2_tt, kBV2_ff, kBV2_tf, kBV2_ft, kBT_tt, kBT_ff, kBT_tf, kBT_ft, kComp_a, kSrc_a, kChain_a, kChain2_a, kChain3_t, kChain3_f, kSet_a, kPar_a, kUnp_a, kFor_a, gV_d, gV_dk, gO_d, gO_o, var_v, var_o, var_t, oV_d, oV_own, tV_d, tV_own, vB_s, oB_s, non_v, non_o, bl_v, bl_o, bl_t, int_v, int_o, str_v, str_o, glb_v, glb_o, tup_v, tup_o, lst_v, lst_o, bin_v, bin_o, bin_t, cmp_t, cmp_v, cmp_o, isN_t, isN_v, isi_t, isi_v, not_t, bop_v, bop_o, bop_t, ife_v, ife_o, idx_v, idx_o, slA_v, slA_o, slB_v, slB_o, call_v, call_o, call_t, callk_v, blt_v, blt_o, comp_v, comp_o, compIf_v, compIf_o, dict0_v, dict1_v, src_eq, rng1_v, zip_v, chain_t, as_nl, as_cs, ds_nl, ds_cs, os_nl, os_cs, vs_nl, vs_cs, es_nl, es_cs, bv_1, bv_2, bt_1, bt_2, s_nil, s_cons, s_set, s_setLc, s_par, s_unp, s_ite, s_loop, s_frz, s_app, rt_non, rt_bl, rt_int, rt_str, rt_glb, rt_tup, rt_lst, rt_bin, rt_cmp, rt_chain, rt_isN, rt_not, rt_bop, rt_ife, rt_idx, rt_slA, rt_slB, rt_call, rt_callk, rt_blt, rt_comp, rt_compIf, rt_isi, gR_s, rt_var, DV.dat, DV.fz, List.getElem?_cons_zero, List.getElem?_cons_succ, List.set_cons_zero, List.set_cons_succ, Option.map_some, Option.map_none, Option.bind_some, Option.bind_none, List.any_cons, List.any_nil, Bool.or_false, Bool.false_or, Bool.or_true, Bool.true_or, Bool.not_true, Bool.not_false, isTy, bltD, blt1, blt2, truthD, intD, setAll, setMany, leI, gl3, hs, decide_true, hi, sub1 hs, ih, Bool.true_and]
            · simp only [bO_some, bO_none, lO_some, lO_none, iB_t, iB_f, thn_nx, thn_rt, thn_bk, thn_ct, endOf_rt, endOf_nx, kLift_a, kOk_a, kO2_a, kIte_t, kIte_f, kIfe_t, kIfe_f, kCall_a, kArgs_a, kArgs2_a, kVals_a, kVals2_a, kOpd_a, kOpd2_a, kDat_a, kDat2_a, kBV_a, kBV2_tt, kBV2_ff, kBV2_tf, kBV2_ft, kBT_tt, kBT_ff, kBT_tf, kBT_ft, kComp_a, kSrc_a, kChain_a, kChain2_a, kChain3_t, kChain3_f, kSet_a, kPar_a, kUnp_a, kFor_a, gV_d, gV_dk, gO_d, gO_o, var_v, var_o, var_t, oV_d, oV_own, tV_d, tV_own, vB_s, oB_s, non_v, non_o, bl_v, bl_o, bl_t, int_v, int_o, str_v, str_o, glb_v, glb_o, tup_v, tup_o, lst_v, lst_o, bin_v, bin_o, bin_t, cmp_t, cmp_v, cmp_o, isN_t, isN_v, isi_t, isi_v, not_t, bop_v, bop_o, bop_t, ife_v, ife_o, idx_v, idx_o, slA_v, slA_o, slB_v, slB_o, call_v, call_o, call_t, callk_v, blt_v, blt_o, comp_v, comp_o, compIf_v, compIf_o, dict0_v, dict1_v, src_eq, rng1_v, zip_v, chain_t, as_nl, as_cs, ds_nl, ds_cs, os_nl, os_cs, vs_nl, vs_cs, es_nl, es_cs, bv_1, bv_2, bt_1, bt_2, s_nil, s_cons, s_set, s_setLc, s_par, s_unp, s_ite, s_loop, s_frz, s_app, rt_non, rt_bl, rt_int, rt_str, rt_glb, rt_tup, rt_lst, rt_bin, rt_cmp, rt_chain, rt_isN, rt_not, rt_bop, rt_ife, rt_idx, rt_slA, rt_slB, rt_call, rt_callk, rt_blt, rt_comp, rt_compIf, rt_isi, gR_s, rt_var, DV.dat, DV.fz, List.getElem?_cons_zero, List.getElem?_cons_succ, List.set_cons_zero, List.set_cons_succ, Option.map_some, Option.map_none, Option.bind_some, Option.bind_none, List.any_cons, List.any_nil, Bool.or_false, Bool.false_or, Bool.or_true, Bool.true_or, Bool.not_true, Bool.not_false, isTy, bltD, blt1, blt2, truthD, intD, setAll, setMany, leI, gl3, hs, decide_false, Bool.false_and]
          · simp only [bO_some, bO_none, lO_some, lO_none, iB_t, iB_f, thn_nx, thn_rt, thn_bk, thn_ct, endOf_rt, endOf_nx, kLift_a, kOk_a, kO2_a, kIte_t, kIte_f, kIfe_t, kIfe_f, kCall_a, kArgs_a, kArgs2_a, kVals_a, kVals2_a, kOpd_a, kOpd2_a, kDat_a, kDat2_a, kBV_a, kBV2_tt, kBV2_ff, kBV2_tf, kBV2_ft, kBT_tt, kBT_ff, kBT_tf, kBT_ft, kComp_a, kSrc_a, kChain_a, kChain2_a, kChain3_t, kChain3_f, kSet_a, kPar_a, kUnp_a, kFor_a, gV_d, gV_dk, gO_d, gO_o, var_v, var_o, var_t, oV_d, oV_own, tV_d, tV_own, vB_s, oB_s, non_v, non_o, bl_v, bl_o, bl_t, int_v, int_o, str_v, str_o, glb_v, glb_o, tup_v, tup_o, lst_v, lst_o, bin_v, bin_o, bin_t, cmp_t, cmp_v, cmp_o, isN_t, isN_v, isi_t, isi_v, not_t, bop_v, bop_o, bop_t, ife_v, ife_o, idx_v, idx_o, slA_v, slA_o, slB_v, slB_o, call_v, call_o, call_t, callk_v, blt_v, blt_o, comp_v, comp_o, compIf_v, compIf_o, dict0_v, dict1_v, src_eq, rng1_v, zip_v, chain_t, as_nl, as_cs, ds_nl, ds_cs, os_nl, os_cs, vs_nl, vs_cs, es_nl, es_cs, bv_1, bv_2, bt_1, bt_2, s_nil, s_cons, s_set, s_setLc, s_par, s_unp, s_ite, s_loop, s_frz, s_app, rt_non, rt_bl, rt_int, rt_str, rt_glb, rt_tup, rt_lst, rt_bin, rt_cmp, rt_chain, rt_isN, rt_not, rt_bop, rt_ife, rt_idx, rt_slA, rt_slB, rt_call, rt_callk, rt_blt, rt_comp, rt_compIf, rt_isi, gR_s, rt_var, DV.dat, DV.fz, List.getElem?_cons_zero, List.getElem?_cons_succ, List.set_cons_zero, List.set_cons_succ, Option.map_some, Option.map_none, Option.bind_some, Option.bind_none, List.any_cons, List.any_nil, Bool.or_false, Bool.false_or, Bool.or_true, Bool.true_or, Bool.not_true, Bool.not_false, isTy, bltD, blt1, blt2, truthD, intD, setAll, setMany, leI, gl3, beq_eq_false_iff_ne.mpr hw, neS, gl2, isK, hw, if_false]
            by_cases hr : w = "row"
            · subst hr
              simp only [bO_some, bO_none, lO_some, lO_none, iB_t, iB_f, thn_nx, thn_rt, thn_bk, thn_ct, endOf_rt, endOf_nx, kLift_a, kOk_a, kO2_a, kIte_t, kIte_f, kIfe_t, kIfe_f, kCall_a, kArgs_a, kArgs2_a, kVals_a, kVals2_a, kOpd_a, kOpd2_a, kDat_a, kDat2_a, kBV_a, kBV2_tt, kBV2_ff, kBV2_tf, kBV2_ft, kBT_tt, kBT_ff, kBT_tf, kBT_ft, kComp_a, kSrc_a, kChain_a, kChain2_a, kChain3_t, kChain3_f, kSet_a, kPar_a, kUnp_a, kFor_a, gV_d, gV_dk, gO_d, gO_o, var_v, var_o, var_t, oV_d, oV_own, tV_d, tV_own, vB_s, oB_s, non_v, non_o, bl_v, bl_o, bl_t, int_v, int_o, str_v, str_o, glb_v, glb_o, tup_v, tup_o, lst_v, lst_o, bin_v, bin_o, bin_t, cmp_t, cmp_v, cmp_o, isN_t, isN_v, isi_t, isi_v, not_t, bop_v, bop_o, bop_t, ife_v, ife_o, idx_v, idx_o, slA_v, slA_o, slB_v, slB_o, call_v, call_o, call_t, callk_v, blt_v, blt_o, comp_v, comp_o, compIf_v, compIf_o, dict0_v, dict1_v, src_eq, rng1_v, zip_v, chain_t, as_nl, as_cs, ds_nl, ds_cs, os_nl, os_cs, vs_nl, vs_cs, es_nl, es_cs, bv_1, bv_2, bt_1, bt_2, s_nil, s_cons, s_set, s_setLc, s_par, s_unp, s_ite, s_loop, s_frz, s_app, rt_non, rt_bl, rt_int, rt_str, rt_glb, rt_tup, rt_lst, rt_bin, rt_cmp, rt_chain, rt_isN, rt_not, rt_bop, rt_ife, rt_idx, rt_slA, rt_slB, rt_call, rt_callk, rt_blt, rt_comp, rt_compIf, rt_isi, gR_s, rt_var, DV.dat, DV.fz, List.getElem?_cons_zero, List.getElem?_cons_succ, List.set_cons_zero, List.set_cons_succ, Option.map_some, Option.map_none, Option.bind_some, Option.bind_none, List.any_cons, List.any_nil, Bool.or_false, Bool.false_or, Bool.or_true, Bool.true_or, Bool.not_true, Bool.not_false, isTy, bltD, blt1, blt2, truthD, intD, setAll, setMany, leI, gl3, beq_self_eq_true, eq0, true_and]
              by_cases h0 : r = 0
              · subst h0
                simp only [bO_some, bO_none, lO_some, lO_none, iB_t, iB_f, thn_nx, thn_rt, thn_bk, thn_ct, endOf_rt, endOf_nx, kLift_a, kOk_a, kO2_a, kIte_t, kIte_f, kIfe_t, kIfe_f, kCall_a, kArgs_a, kArgs2_a, kVals_a, kVals2_a, kOpd_a, kOpd2_a, kDat_a, kDat2_a, kBV_a, kBV2_tt, kBV2_ff, kBV2_tf, kBV2_ft, kBT_tt, kBT_ff, kBT_tf, kBT_ft, kComp_a, kSrc_a, kChain_a, kChain2_a, kChain3_t, kChain3_f, kSet_a, kPar_a, kUnp_a, kFor_a, gV_d, gV_dk, gO_d, gO_o, var_v, var_o, var_t, oV_d, oV_own, tV_d, tV_own, vB_s, oB_s, non_v, non_o, bl_v, bl_o, bl_t, int_v, int_o, str_v, str_o, glb_v, glb_o, tup_v, tup_o, lst_v, lst_o, bin_v, bin_o, bin_t, cmp_t, cmp_v, cmp_o, isN_t, isN_v, isi_t, isi_v, not_t, bop_v, bop_o, bop_t, ife_v, ife_o, idx_v, idx_o, slA_v, slA_o, slB_v, slB_o, call_v, call_o, call_t, callk_v, blt_v, blt_o, comp_v, comp_o, compIf_v, compIf_o, dict0_v, dict1_v, src_eq, rng1_v, zip_v, chain_t, as_nl, as_cs, ds_nl, ds_cs, os_nl, os_cs, vs_nl, vs_cs, es_nl, es_cs, bv_1, bv_2, bt_1, bt_2, s_nil, s_cons, s_set, s_setLc, s_par, s_unp, s_ite, s_loop, s_frz, s_app, rt_non, rt_bl, rt_int, rt_str, rt_glb, rt_tup, rt_lst, rt_bin, rt_cmp, rt_chain, rt_isN, rt_not, rt_bop, rt_ife, rt_idx, rt_slA, rt_slB, rt_call, rt_callk, rt_blt, rt_comp, rt_compIf, rt_isi, gR_s, rt_var, DV.dat, DV.fz, List.getElem?_cons_zero, List.getElem?_cons_succ, List.set_cons_zero, List.set_cons_succ, Option.map_some, Option.map_none, Option.bind_some, Option.bind_none, List.any_cons, List.any_nil, Bool.or_false, Bool.false_or, Bool.or_true, Bool.true_or, Bool.not_true, Bool.not_false, isTy, bltD, blt1, blt2, truthD, intD, setAll, setMany, leI, gl3, decide_true]
                rfl
              · have h0' : 0 < r := by omega
                simp only [bO_some, bO_none, lO_some, lO_none, iB_t, iB_f, thn_nx, thn_rt, thn_bk, thn_ct, endOf_rt, endOf_nx, kLift_a, kOk_a, kO2_a, kIte_t, kIte_f, kIfe_t, kIfe_f, kCall_a, kArgs_a, kArgs2_a, kVals_a, kVals2_a, kOpd_a, kOpd2_a, kDat_a, kDat2_a, kBV_a, kBV2_tt, kBV2_ff, kBV2_tf, kBV2_ft, kBT_tt, kBT_ff, kBT_tf, kBT_ft, kComp_a, kSrc_a, kChain_a, kChain2_a, kChain3_t, kChain3_f, kSet_a, kPar_a, kUnp_a, kFor_a, gV_d, gV_dk, gO_d, gO_o, var_v, var_o, var_t, oV_d, oV_own, tV_d, tV_own, vB_s, oB_s, non_v, non_o, bl_v, bl_o, bl_t, int_v, int_o, str_v, str_o, glb_v, glb_o, tup_v, tup_o, lst_v, lst_o, bin_v, bin_o, bin_t, cmp_t, cmp_v, cmp_o, isN_t, isN_v, isi_t, isi_v, not_t, bop_v, bop_o, bop_t, ife_v, ife_o, idx_v, idx_o, slA_v, slA_o, slB_v, slB_o, call_v, call_o, call_t, callk_v, blt_v, blt_o, comp_v, comp_o, compIf_v, compIf_o, dict0_v, dict1_v, src_eq, rng1_v, zip_v, chain_t, as_nl, as_cs, ds_nl, ds_cs, os_nl, os_cs, vs_nl, vs_cs, es_nl, es_cs, bv_1, bv_2, bt_1, bt_2, s_nil, s_cons, s_set, s_setLc, s_par, s_unp, s_ite, s_loop, s_frz, s_app, rt_non, rt_bl, rt_int, rt_str, rt_glb, rt_tup, rt_lst, rt_bin, rt_cmp, rt_chain, rt_isN, rt_not, rt_bop, rt_ife, rt_idx, rt_slA, rt_slB, rt_call, rt_callk, rt_blt, rt_comp, rt_compIf, rt_isi, gR_s, rt_var, DV.dat, DV.fz, List.getElem?_cons_zero, List.getElem?_cons_succ, List.set_cons_zero, List.set_cons_succ, Option.map_some, Option.map_none, Option.bind_some, Option.bind_none, List.any_cons, List.any_nil, Bool.or_false, Bool.false_or, Bool.or_true, Bool.true_or, Bool.not_true, Bool.not_false, isTy, bltD, blt1, blt2, truthD, intD, setAll, setMany, leI, gl3, h0, decide_false, h0', if_true]
                cases i with
                | tuple ks =>
                  simp only [bO_some, bO_none, lO_some, lO_none, iB_t, iB_f, thn_nx, thn_rt, thn_bk, thn_ct, endOf_rt, endOf_nx, kLift_a, kOk_a, kO2_a, kIte_t, kIte_f, kIfe_t, kIfe_f, kCall_a, kArgs_a, kArgs2_a, kVals_a, kVals2_a, kOpd_a, kOpd2_a, kDat_a, kDat2_a, kBV_a, kBV2_tt, kBV2_ff, kBV2_tf, kBV2_ft, kBT_tt, kBT_ff, kBT_tf, kBT_ft, kComp_a, kSrc_a, kChain_a, kChain2_a, kChain3_t, kChain3_f, kSet_a, kPar_a, kUnp_a, kFor_a, gV_d, gV_dk, gO_d, gO_o, var_v, var_o, var_t, oV_d, oV_own, tV_d, tV_own, vB_s, oB_s, non_v, non_o, bl_v, bl_o, bl_t, int_v, int_o, str_v, str_o, glb_v, glb_o, tup_v, tup_o, lst_v, lst_o, bin_v, bin_o, bin_t, cmp_t, cmp_v, cmp_o, isN_t, isN_v, isi_t, isi_v, not_t, bop_v, bop_o, bop_t, ife_v, ife_o, idx_v, idx_o, slA_v, slA_o, slB_v, slB_o, call_v, call_o, call_t, callk_v, blt_v, blt_o, comp_v, comp_o, compIf_v, compIf_o, dict0_v, dict1_v, src_eq, rng1_v, zip_v, chain_t, as_nl, as_cs, ds_nl, ds_cs, os_nl, os_cs, vs_nl, vs_cs, es_nl, es_cs, bv_1, bv_2, bt_1, bt_2, s_nil, s_cons, s_set, s_setLc, s_par, s_unp, s_ite, s_loop, s_frz, s_app, rt_non, rt_bl, rt_int, rt_str, rt_glb, rt_tup, rt_lst, rt_bin, rt_cmp, rt_chain, rt_isN, rt_not, rt_bop, rt_ife, rt_idx, rt_slA, rt_slB, rt_call, rt_callk, rt_blt, rt_comp, rt_compIf, rt_isi, gR_s, rt_var, DV.dat, DV.fz, List.getElem?_cons_zero, List.getElem?_cons_succ, List.set_cons_zero, List.set_cons_succ, Option.map_some, Option.map_none, Option.bind_some, Option.bind_none, List.any_cons, List.any_nil, Bool.or_false, Bool.false_or, Bool.or_true, Bool.true_or, Bool.not_true, Bool.not_false, isTy, bltD, blt1, blt2, truthD, intD, setAll, setMany, leI, gl3, lenB, lenD]
                  by_cases h1 : (1 : Int) ≤ ks.length
                  · by_cases h4 : (ks.length : Int) ≤ 4
                    · have cm := comp_map (tg := 5) (e := (evA (CX n) b0_0).v) (f := fun x => .bool (isK n s (r - 1) x)) (ρ := [some (.d (.tuple [.str "row", .tuple ks])), some (.d (.int s)), some (.d (.int r)), some (.d (.str "row")), some (.d (.tuple ks)), none]) (k := k) ks fun x _ => by
                        have ih := within_ok n s (r - 1) x k (by omega)
                        simp only [b0_0, bO_some, bO_none, lO_some, lO_none, iB_t, iB_f, thn_nx, thn_rt, thn_bk, thn_ct, endOf_rt, endOf_nx, kLift_a, kOk_a, kO2_a, kIte_t, kIte_f, kIfe_t, kIfe_f, kCall_a, kArgs_a, kArgs2_a, kVals_a, kVals2_a, kOpd_a, kOpd2_a, kDat_a, kDat2_a, kBV_a, kBV2_tt, kBV2_ff, kBV2_tf, kBV2_ft, kBT_tt, kBT_ff, kBT_tf, kBT_ft, kComp_a, kSrc_a, kChain_a, kChain2_a, kChain3_t, kChain3_f, kSet_a, kPar_a, kUnp_a, kFor_a, gV_d, gV_dk, gO_d, gO_o, var_v, var_o, var_t, oV_d, oV_own, tV_d, tV_own, vB_s, oB_s, non_v, non_o, bl_v, bl_o, bl_t, int_v, int_o, str_v, str_o, glb_v, glb_o, tup_v, tup_o, lst_v, lst_o, bin_v, bin_o, bin_t, cmp_t, cmp_v, cmp_o, isN_t, isN_v, isi_t, isi_v, not_t, bop_v, bop_o, bop_t, ife_v, ife_o, idx_v, idx_o, slA_v, slA_o, slB_v, slB_o, call_v, call_o, call_t, callk_v, blt_v, blt_o, comp_v, comp_o, compIf_v, compIf_o, dict0_v, dict1_v, src_eq, rng1_v, zip_v, chain_t, as_nl, as_cs, ds_nl, ds_cs, os_nl, os_cs, vs_nl, vs_cs, es_nl, es_cs, bv_1, bv_2, bt_1, bt_2, s_nil, s_cons, s_set, s_setLc, s_par, s_unp, s_ite, s_loop, s_frz, s_app, rt_non, rt_bl, rt_int, rt_str, rt_glb, rt_tup, rt_lst, rt_bin, rt_cmp, rt_chain, rt_isN, rt_not, rt_bop, rt_ife, rt_idx, rt_slA, rt_slB, rt_call, rt_callk, rt_blt, rt_comp, rt_compIf, rt_isi, gR_s, rt_var, DV.dat, DV.fz, List.getElem?_cons_zero, List.getElem?_cons_succ, List.set_cons_zero, List.set_cons_succ, Option.map_some, Option.map_none, Option.bind_some, Option.bind_none, List.any_cons, List.any_nil, Bool.or_false, Bool.false_or, Bool.or_true, Bool.true_or, Bool.not_true, Bool.not_false, isTy, bltD, blt1, blt2, truthD, intD, setAll, setMany, leI, gl3, wipeE, sub1 h0', ih]
                      have hl : ks.length ≤ sizeLine := by have : (4 : Nat) ≤ sizeLine := by decide
                                                           omega
                      have d1 : decide (1 ≤ ks.length ∧ ks.length ≤ 4) = true := by simp; omega
                      simp only [bO_some, bO_none, lO_some, lO_none, iB_t, iB_f, thn_nx, thn_rt, thn_bk, thn_ct, endOf_rt, endOf_nx, kLift_a, kOk_a, kO2_a, kIte_t, kIte_f, kIfe_t, kIfe_f, kCall_a, kArgs_a, kArgs2_a, kVals_a, kVals2_a, kOpd_a, kOpd2_a, kDat_a, kDat2_a, kBV_a, kBV2_tt, kBV2_ff, kBV2_tf, kBV2_ft, kBT_tt, kBT_ff, kBT_tf, kBT_ft, kComp_a, kSrc_a, kChain_a, kChain2_a, kChain3_t, kChain3_f, kSet_a, kPar_a, kUnp_a, kFor_a, gV_d, gV_dk, gO_d, gO_o, var_v, var_o, var_t, oV_d, oV_own, tV_d, tV_own, vB_s, oB_s, non_v, non_o, bl_v, bl_o, bl_t, int_v, int_o, str_v, str_o, glb_v, glb_o, tup_v, tup_o, lst_v, lst_o, bin_v, bin_o, bin_t, cmp_t, cmp_v, cmp_o, isN_t, isN_v, isi_t, isi_v, not_t, bop_v, bop_o, bop_t, ife_v, ife_o, idx_v, idx_o, slA_v, slA_o, slB_v, slB_o, call_v, call_o, call_t, callk_v, blt_v, blt_o, comp_v, comp_o, compIf_v, compIf_o, dict0_v, dict1_v, src_eq, rng1_v, zip_v, chain_t, as_nl, as_cs, ds_nl, ds_cs, os_nl, os_cs, vs_nl, vs_cs, es_nl, es_cs, bv_1, bv_2, bt_1, bt_2, s_nil, s_cons, s_set, s_setLc, s_par, s_unp, s_ite, s_loop, s_frz, s_app, rt_non, rt_bl, rt_int, rt_str, rt_glb, rt_tup, rt_lst, rt_bin, rt_cmp, rt_chain, rt_isN, rt_not, rt_bop, rt_ife, rt_idx, rt_slA, rt_slB, rt_call, rt_callk, rt_blt, rt_comp, rt_compIf, rt_isi, gR_s, rt_var, DV.dat, DV.fz, List.getElem?_cons_zero, List.getElem?_cons_succ, List.set_cons_zero, List.set_cons_succ, Option.map_some, Option.map_none, Option.bind_some, Option.bind_none, List.any_cons, List.any_nil, Bool.or_false, Bool.false_or, Bool.or_true, Bool.true_or, Bool.not_true, Bool.not_false, isTy, bltD, blt1, blt2, truthD, intD, setAll, setMany, leI, gl3, h1, h4, decide_true, itemsD, srcL_ok hl, cm, all_map, d1, Bool.true_and]
                    · have d1 : decide (1 ≤ ks.length ∧ ks.length ≤ 4) = false := by simp; omega
                      simp only [bO_some, bO_none, lO_some, lO_none, iB_t, iB_f, thn_nx, thn_rt, thn_bk, thn_ct, endOf_rt, endOf_nx, kLift_a, kOk_a, kO2_a, kIte_t, kIte_f, kIfe_t, kIfe_f, kCall_a, kArgs_a, kArgs2_a, kVals_a, kVals2_a, kOpd_a, kOpd2_a, kDat_a, kDat2_a, kBV_a, kBV2_tt, kBV2_ff, kBV2_tf, kBV2_ft, kBT_tt, kBT_ff, kBT_tf, kBT_ft, kComp_a, kSrc_a, kChain_a, kChain2_a, kChain3_t, kChain3_f, kSet_a, kPar_a, kUnp_a, kFor_a, gV_d, gV_dk, gO_d, gO_o, var_v, var_o, var_t, oV_d, oV_own, tV_d, tV_own, vB_s, oB_s, non_v, non_o, bl_v, bl_o, bl_t, int_v, int_o, str_v, str_o, glb_v, glb_o, tup_v, tup_o, lst_v, lst_o, bin_v, bin_o, bin_t, cmp_t, cmp_v, cmp_o, isN_t, isN_v, isi_t, isi_v, not_t, bop_v, bop_o, bop_t, ife_v, ife_o, idx_v, idx_o, slA_v, slA_o, slB_v, slB_o, call_v, call_o, call_t, callk_v, blt_v, blt_o, comp_v, comp_o, compIf_v, compIf_o, dict0_v, dict1_v, src_eq, rng1_v, zip_v, chain_t, as_nl, as_cs, ds_nl, ds_cs, os_nl, os_cs, vs_nl, vs_cs, es_nl, es_cs, bv_1, bv_2, bt_1, bt_2, s_nil, s_cons, s_set, s_setLc, s_par, s_unp, s_ite, s_loop, s_frz, s_app, rt_non, rt_bl, rt_int, rt_str, rt_glb, rt_tup, rt_lst, rt_bin, rt_cmp, rt_chain, rt_isN, rt_not, rt_bop, rt_ife, rt_idx, rt_slA, rt_slB, rt_call, rt_callk, rt_blt, rt_comp, rt_compIf, rt_isi, gR_s, rt_var, DV.dat, DV.fz, List.getElem?_cons_zero, List.getElem?_cons_succ, List.set_cons_zero, List.set_cons_succ, Option.map_some, Option.map_none, Option.bind_some, Option.bind_none, List.any_cons, List.any_nil, Bool.or_false, Bool.false_or, Bool.or_true, Bool.true_or, Bool.not_true, Bool.not_false, isTy, bltD, blt1, blt2, truthD, intD, setAll, setMany, leI, gl3, h1, h4, decide_true, decide_false, d1, Bool.false_and]
                  · have d1 : decide (1 ≤ ks.length ∧ ks.length ≤ 4) = false := by simp; omega
                    simp only [bO_some, bO_none, lO_some, lO_none, iB_t, iB_f, thn_nx, thn_rt, thn_bk, thn_ct, endOf_rt, endOf_nx, kLift_a, kOk_a, kO2_a, kIte_t, kIte_f, kIfe_t, kIfe_f, kCall_a, kArgs_a, kArgs2_a, kVals_a, kVals2_a, kOpd_a, kOpd2_a, kDat_a, kDat2_a, kBV_a, kBV2_tt, kBV2_ff, kBV2_tf, kBV2_ft, kBT_tt, kBT_ff, kBT_tf, kBT_ft, kComp_a, kSrc_a, kChain_a, kChain2_a, kChain3_t, kChain3_f, kSet_a, kPar_a, kUnp_a, kFor_a, gV_d, gV_dk, gO_d, gO_o, var_v, var_o, var_t, oV_d, oV_own, tV_d, tV_own, vB_s, oB_s, non_v, non_o, bl_v, bl_o, bl_t, int_v, int_o, str_v, str_o, glb_v, glb_o, tup_v, tup_o, lst_v, lst_o, bin_v, bin_o, bin_t, cmp_t, cmp_v, cmp_o, isN_t, isN_v, isi_t, isi_v, not_t, bop_v, bop_o, bop_t, ife_v, ife_o, idx_v, idx_o, slA_v, slA_o, slB_v, slB_o, call_v, call_o, call_t, callk_v, blt_v, blt_o, comp_v, comp_o, compIf_v, compIf_o, dict0_v, dict1_v, src_eq, rng1_v, zip_v, chain_t, as_nl, as_cs, ds_nl, ds_cs, os_nl, os_cs, vs_nl, vs_cs, es_nl, es_cs, bv_1, bv_2, bt_1, bt_2, s_nil, s_cons, s_set, s_setLc, s_par, s_unp, s_ite, s_loop, s_frz, s_app, rt_non, rt_bl, rt_int, rt_str, rt_glb, rt_tup, rt_lst, rt_bin, rt_cmp, rt_chain, rt_isN, rt_not, rt_bop, rt_ife, rt_idx, rt_slA, rt_slB, rt_call, rt_callk, rt_blt, rt_comp, rt_compIf, rt_isi, gR_s, rt_var, DV.dat, DV.fz, List.getElem?_cons_zero, List.getElem?_cons_succ, List.set_cons_zero, List.set_cons_succ, Option.map_some, Option.map_none, Option.bind_some, Option.bind_none, List.any_cons, List.any_nil, Bool.or_false, Bool.false_or, Bool.or_true, Bool.true_or, Bool.not_true, Bool.not_false, isTy, bltD, blt1, blt2, truthD, intD, setAll, setMany, leI, gl3, h1, decide_false, d1, Bool.false_and]
                | _ => simp only [bO_some, bO_none, lO_some, lO_none, iB_t, iB_f, thn_nx, thn_rt, thn_bk, thn_ct, endOf_rt, endOf_nx, kLift_a, kOk_a, kO2_a, kIte_t, kIte_f, kIfe_t, kIfe_f, kCall_a, kArgs_a, kArgs2_a, kVals_a, kVals2_a, kOpd_a, kOpd2_a, kDat_a, kDat2_a, kBV_a, kBV2_tt, kBV2_ff, kBV2_tf, kBV2_ft, kBT_tt, kBT_ff, kBT_tf, kBT_ft, kComp_a, kSrc_a, kChain_a, kChain2_a, kChain3_t, kChain3_f, kSet_a, kPar_a, kUnp_a, kFor_a, gV_d, gV_dk, gO_d, gO_o, var_v, var_o, var_t, oV_d, oV_own, tV_d, tV_own, vB_s, oB_s, non_v, non_o, bl_v, bl_o, bl_t, int_v, int_o, str_v, str_o, glb_v, glb_o, tup_v, tup_o, lst_v, lst_o, bin_v, bin_o, bin_t, cmp_t, cmp_v, cmp_o, isN_t, isN_v, isi_t, isi_v, not_t, bop_v, bop_o, bop_t, ife_v, ife_o, idx_v, idx_o, slA_v, slA_o, slB_v, slB_o, call_v, call_o, call_t, callk_v, blt_v, blt_o, comp_v, comp_o, compIf_v, compIf_o, dict0_v, dict1_v, src_eq, rng1_v, zip_v, chain_t, as_nl, as_cs, ds_nl, ds_cs, os_nl, os_cs, vs_nl, vs_cs, es_nl, es_cs, bv_1, bv_2, bt_1, bt_2, s_nil, s_cons, s_set, s_setLc, s_par, s_unp, s_ite, s_loop, s_frz, s_app, rt_non, rt_bl, rt_int, rt_str, rt_glb, rt_tup, rt_lst, rt_bin, rt_cmp, rt_chain, rt_isN, rt_not, rt_bop, rt_ife, rt_idx, rt_slA, rt_slB, rt_call, rt_callk, rt_blt, rt_comp, rt_compIf, rt_isi, gR_s, rt_var, DV.dat, DV.fz, List.getElem?_cons_zero, List.getElem?_cons_succ, List.set_cons_zero, List.set_cons_succ, Option.map_some, Option.map_none, Option.bind_some, Option.bind_none, List.any_cons, List.any_nil, Bool.or_false, Bool.false_or, Bool.or_true, Bool.true_or, Bool.not_true, Bool.not_false, isTy, bltD, blt1, blt2, truthD, intD, setAll, setMany]
            · simp only [bO_some, bO_none, lO_some, lO_none, iB_t, iB_f, thn_nx, thn_rt, thn_bk, thn_ct, endOf_rt, endOf_nx, kLift_a, kOk_a, kO2_a, kIte_t, kIte_f, kIfe_t, kIfe_f, kCall_a, kArgs_a, kArgs2_a, kVals_a, kVals2_a, kOpd_a, kOpd2_a, kDat_a, kDat2_a, kBV_a, kBV2_tt, kBV2_ff, kBV2_tf, kBV2_ft, kBT_tt, kBT_ff, kBT_tf, kBT_ft, kComp_a, kSrc_a, kChain_a, kChain2_a, kChain3_t, kChain3_f, kSet_a, kPar_a, kUnp_a, kFor_a, gV_d, gV_dk, gO_d, gO_o, var_v, var_o, var_t, oV_d, oV_own, tV_d, tV_own, vB_s, oB_s, non_v, non_o, bl_v, bl_o, bl_t, int_v, int_o, str_v, str_o, glb_v, glb_o, tup_v, tup_o, lst_v, lst_o, bin_v, bin_o, bin_t, cmp_t, cmp_v, cmp_o, isN_t, isN_v, isi_t, isi_v, not_t, bop_v, bop_o, bop_t, ife_v, ife_o, idx_v, idx_o, slA_v, slA_o, slB_v, slB_o, call_v, call_o, call_t, callk_v, blt_v, blt_o, comp_v, comp_o, compIf_v, compIf_o, dict0_v, dict1_v, src_eq, rng1_v, zip_v, chain_t, as_nl, as_cs, ds_nl, ds_cs, os_nl, os_cs, vs_nl, vs_cs, es_nl, es_cs, bv_1, bv_2, bt_1, bt_2, s_nil, s_cons, s_set, s_setLc, s_par, s_unp, s_ite, s_loop, s_frz, s_app, rt_non, rt_bl, rt_int, rt_str, rt_glb, rt_tup, rt_lst, rt_bin, rt_cmp, rt_chain, rt_isN, rt_not, rt_bop, rt_ife, rt_idx, rt_slA, rt_slB, rt_call, rt_callk, rt_blt, rt_comp, rt_compIf, rt_isi, gR_s, rt_var, DV.dat, DV.fz, List.getElem?_cons_zero, List.getElem?_cons_succ, List.set_cons_zero, List.set_cons_succ, Option.map_some, Option.map_none, Option.bind_some, Option.bind_none, List.any_cons, List.any_nil, Bool.or_false, Bool.false_or, Bool.or_true, Bool.true_or, Bool.not_true, Bool.not_false, isTy, bltD, blt1, blt2, truthD, intD, setAll, setMany, leI, gl3, beq_eq_false_iff_ne.mpr hr, hr, false_and, if_false]
        | _ => simp only [bO_some, bO_none, lO_some, lO_none, iB_t, iB_f, thn_nx, thn_rt, thn_bk, thn_ct, endOf_rt, endOf_nx, kLift_a, kOk_a, kO2_a, kIte_t, kIte_f, kIfe_t, kIfe_f, kCall_a, kArgs_a, kArgs2_a, kVals_a, kVals2_a, kOpd_a, kOpd2_a, kDat_a, kDat2_a, kBV_a, kBV2_tt, kBV2_ff, kBV2_tf, kBV2_ft, kBT_tt, kBT_ff, kBT_tf, kBT_ft, kComp_a, kSrc_a, kChain_a, kChain2_a, kChain3_t, kChain3_f, kSet_a, kPar_a, kUnp_a, kFor_a, gV_d, gV_dk, gO_d, gO_o, var_v, var_o, var_t, oV_d, oV_own, tV_d, tV_own, vB_s, oB_s, non_v, non_o, bl_v, bl_o, bl_t, int_v, int_o, str_v, str_o, glb_v, glb_o, tup_v, tup_o, lst_v, lst_o, bin_v, bin_o, bin_t, cmp_t, cmp_v, cmp_o, isN_t, isN_v, isi_t, isi_v, not_t, bop_v, bop_o, bop_t, ife_v, ife_o, idx_v, idx_o, slA_v, slA_o, slB_v, slB_o, call_v, call_o, call_t, callk_v, blt_v, blt_o, comp_v, comp_o, compIf_v, compIf_o, dict0_v, dict1_v, src_eq, rng1_v, zip_v, chain_t, as_nl, as_cs, ds_nl, ds_cs, os_nl, os_cs, vs_nl, vs_cs, es_nl, es_cs, bv_1, bv_2, bt_1, bt_2, s_nil, s_cons, s_set, s_setLc, s_par, s_unp, s_ite, s_loop, s_frz, s_app, rt_non, rt_bl, rt_int, rt_str, rt_glb, rt_tup, rt_lst, rt_bin, rt_cmp, rt_chain, rt_isN, rt_not, rt_bop, rt_ife, rt_idx, rt_slA, rt_slB, rt_call, rt_callk, rt_blt, rt_comp, rt_compIf, rt_isi, gR_s, rt_var, DV.dat, DV.fz, List.getElem?_cons_zero, List.getElem?_cons_succ, List.set_cons_zero, List.set_cons_succ, Option.map_some, Option.map_none, Option.bind_some, Option.bind_none, List.any_cons, List.any_nil, Bool.or_false, Bool.false_or, Bool.or_true, Bool.true_or, Bool.not_true, Bool.not_false, isTy, bltD, blt1, blt2, truthD, intD, setAll, setMany, leI, gl3, isK, lenB, lenD, l2, i0]
    | _ => simp only [bO_some, bO_none, lO_some, lO_none, iB_t, iB_f, thn_nx, thn_rt, thn_bk, thn_ct, endOf_rt, endOf_nx, kLift_a, kOk_a, kO2_a, kIte_t, kIte_f, kIfe_t, kIfe_f, kCall_a, kArgs_a, kArgs2_a, kVals_a, kVals2_a, kOpd_a, kOpd2_a, kDat_a, kDat2_a, kBV_a, kBV2_tt, kBV2_ff, kBV2_tf, kBV2_ft, kBT_tt, kBT_ff, kBT_tf, kBT_ft, kComp_a, kSrc_a, kChain_a, kChain2_a, kChain3_t, kChain3_f, kSet_a, kPar_a, kUnp_a, kFor_a, gV_d, gV_dk, gO_d, gO_o, var_v, var_o, var_t, oV_d, oV_own, tV_d, tV_own, vB_s, oB_s, non_v, non_o, bl_v, bl_o, bl_t, int_v, int_o, str_v, str_o, glb_v, glb_o, tup_v, tup_o, lst_v, lst_o, bin_v, bin_o, bin_t, cmp_t, cmp_v, cmp_o, isN_t, isN_v, isi_t, isi_v, not_t, bop_v, bop_o, bop_t, ife_v, ife_o, idx_v, idx_o, slA_v, slA_o, slB_v, slB_o, call_v, call_o, call_t, callk_v, blt_v, blt_o, comp_v, comp_o, compIf_v, compIf_o, dict0_v, dict1_v, src_eq, rng1_v, zip_v, chain_t, as_nl, as_cs, ds_nl, ds_cs, os_nl, os_cs, vs_nl, vs_cs, es_nl, es_cs, bv_1, bv_2, bt_1, bt_2, s_nil, s_cons, s_set, s_setLc, s_par, s_unp, s_ite, s_loop, s_frz, s_app, rt_non, rt_bl, rt_int, rt_str, rt_glb, rt_tup, rt_lst, rt_bin, rt_cmp, rt_chain, rt_isN, rt_not, rt_bop, rt_ife, rt_idx, rt_slA, rt_slB, rt_call, rt_callk, rt_blt, rt_comp, rt_compIf, rt_isi, gR_s, rt_var, DV.dat, DV.fz, List.getElem?_cons_zero, List.getElem?_cons_succ, List.set_cons_zero, List.set_cons_succ, Option.map_some, Option.map_none, Option.bind_some, Option.bind_none, List.any_cons, List.any_nil, Bool.or_false, Bool.false_or, Bool.or_true, Bool.true_or, Bool.not_true, Bool.not_false, isTy, bltD, blt1, blt2, truthD, intD, setAll, setMany, leI, gl3, isK]
theorem kind_ok (n : Nat) (d : PyData) (k : OD) (h : 7 < n) : callD Pg n 1 [.d d] k = some (.d (.bool (isK (n - 1) 3 3 d)), k) := by
  obtain ⟨m, rfl⟩ : ∃ m, n = m + 1 := ⟨n - 1, by omega⟩
  show endOf (evSs (CX m) b1 [some (.d d)] k) = _
  have e := within_ok m 3 3 d k (by omega)
  unfold b1
  simp only [bO_some, bO_none, lO_some, lO_none, iB_t, iB_f, thn_nx, thn_rt, thn_bk, thn_ct, endOf_rt, endOf_nx, kLift_a, kOk_a, kO2_a, kIte_t, kIte_f, kIfe_t, kIfe_f, kCall_a, kArgs_a, kArgs2_a, kVals_a, kVals2_a, kOpd_a, kOpd2_a, kDat_a, kDat2_a, kBV_a, kBV2_tt, kBV2_ff, kBV2_tf, kBV2_ft, kBT_tt, kBT_ff, kBT_tf, kBT_ft, kComp_a, kSrc_a, kChain_a, kChain2_a, kChain3_t, kChain3_f, kSet_a, kPar_a, kUnp_a, kFor_a, gV_d, gV_dk, gO_d, gO_o, var_v, var_o, var_t, oV_d, oV_own, tV_d, tV_own, vB_s, oB_s, non_v, non_o, bl_v, bl_o, bl_t, int_v, int_o, str_v, str_o, glb_v, glb_o, tup_v, tup_o, lst_v, lst_o, bin_v, bin_o, bin_t, cmp_t, cmp_v, cmp_o, isN_t, isN_v, isi_t, isi_v, not_t, bop_v, bop_o, bop_t, ife_v, ife_o, idx_v, idx_o, slA_v, slA_o, slB_v, slB_o, call_v, call_o, call_t, callk_v, blt_v, blt_o, comp_v, comp_o, compIf_v, compIf_o, dict0_v, dict1_v, src_eq, rng1_v, zip_v, chain_t, as_nl, as_cs, ds_nl, ds_cs, os_nl, os_cs, vs_nl, vs_cs, es_nl, es_cs, bv_1, bv_2, bt_1, bt_2, s_nil, s_cons, s_set, s_setLc, s_par, s_unp, s_ite, s_loop, s_frz, s_app, rt_non, rt_bl, rt_int, rt_str, rt_glb, rt_tup, rt_lst, rt_bin, rt_cmp, rt_chain, rt_isN, rt_not, rt_bop, rt_ife, rt_idx, rt_slA, rt_slB, rt_call, rt_callk, rt_blt, rt_comp, rt_compIf, rt_isi, gR_s, rt_var, DV.dat, DV.fz, List.getElem?_cons_zero, List.getElem?_cons_succ, List.set_cons_zero, List.set_cons_succ, Option.map_some, Option.map_none, Option.bind_some, Option.bind_none, List.any_cons, List.any_nil, Bool.or_false, Bool.false_or, Bool.or_true, Bool.true_or, Bool.not_true, Bool.not_false, isTy, bltD, blt1, blt2, truthD, intD, setAll, setMany, gl4]
  exact congrArg endOf (congrArg (fun z => thn (bO z (kOk .rt)) (evSs (CX m) .nil)) e)
theorem own_ok : ∀ (n s r : Nat) (d : PyData) (k : OD), s + r < n → callD Pg n 13 [.d d, .d (.int s), .d (.int r)] k = some (.d (.bool (isK n s r d)), k)
  | 0, _, _, _, _, h => absurd h (Nat.not_lt_zero _)
  | n + 1, s, r, d, k, h => by
    show endOf (evSs (CX n) b13 [some (.d d), some (.d (.int s)), some (.d (.int r)), none] k) = _
    unfold b13
    cases d with
    | str x =>
      simp only [bO_some, bO_none, lO_some, lO_none, iB_t, iB_f, thn_nx, thn_rt, thn_bk, thn_ct, endOf_rt, endOf_nx, kLift_a, kOk_a, kO2_a, kIte_t, kIte_f, kIfe_t, kIfe_f, kCall_a, kArgs_a, kArgs2_a, kVals_a, kVals2_a, kOpd_a, kOpd2_a, kDat_a, kDat2_a, kBV_a, kBV2_tt, kBV2_ff, kBV2_tf, kBV2_ft, kBT_tt, kBT_ff, kBT_tf, kBT_ft, kComp_a, kSrc_a, kChain_a, kChain2_a, kChain3_t, kChain3_f, kSet_a, kPar_a, kUnp_a, kFor_a, gV_d, gV_dk, gO_d, gO_o, var_v, var_o, var_t, oV_d, oV_own, tV_d, tV_own, vB_s, oB_s, non_v, non_o, bl_v, bl_o, bl_t, int_v, int_o, str_v, str_o, glb_v, glb_o, tup_v, tup_o, lst_v, lst_o, bin_v, bin_o, bin_t, cmp_t, cmp_v, cmp_o, isN_t, isN_v, isi_t, isi_v, not_t, bop_v, bop_o, bop_t, ife_v, ife_o, idx_v, idx_o, slA_v, slA_o, slB_v, slB_o, call_v, call_o, call_t, callk_v, blt_v, blt_o, comp_v, comp_o, compIf_v, compIf_o, dict0_v, dict1_v, src_eq, rng1_v, zip_v, chain_t, as_nl, as_cs, ds_nl, ds_cs, os_nl, os_cs, vs_nl, vs_cs, es_nl, es_cs, bv_1, bv_2, bt_1, bt_2, s_nil, s_cons, s_set, s_setLc, s_par, s_unp, s_ite, s_loop, s_frz, s_app, rt_non, rt_bl, rt_int, rt_str, rt_glb, rt_tup, rt_lst, rt_bin, rt_cmp, rt_chain, rt_isN, rt_not, rt_bop, rt_ife, rt_idx, rt_slA, rt_slB, rt_call, rt_callk, rt_blt, rt_comp, rt_compIf, rt_isi, gR_s, rt_var, DV.dat, DV.fz, List.getElem?_cons_zero, List.getElem?_cons_succ, List.set_cons_zero, List.set_cons_succ, Option.map_some, Option.map_none, Option.bind_some, Option.bind_none, List.any_cons, List.any_nil, Bool.or_false, Bool.false_or, Bool.or_true, Bool.true_or, Bool.not_true, Bool.not_false, isTy, bltD, blt1, blt2, truthD, intD, setAll, setMany, isK, ds_nl, in_plain]
    | tuple xs =>
      match xs with
      | [] => simp only [bO_some, bO_none, lO_some, lO_none, iB_t, iB_f, thn_nx, thn_rt, thn_bk, thn_ct, endOf_rt, endOf_nx, kLift_a, kOk_a, kO2_a, kIte_t, kIte_f, kIfe_t, kIfe_f, kCall_a, kArgs_a, kArgs2_a, kVals_a, kVals2_a, kOpd_a, kOpd2_a, kDat_a, kDat2_a, kBV_a, kBV2_tt, kBV2_ff, kBV2_tf, kBV2_ft, kBT_tt, kBT_ff, kBT_tf, kBT_ft, kComp_a, kSrc_a, kChain_a, kChain2_a, kChain3_t, kChain3_f, kSet_a, kPar_a, kUnp_a, kFor_a, gV_d, gV_dk, gO_d, gO_o, var_v, var_o, var_t, oV_d, oV_own, tV_d, tV_own, vB_s, oB_s, non_v, non_o, bl_v, bl_o, bl_t, int_v, int_o, str_v, str_o, glb_v, glb_o, tup_v, tup_o, lst_v, lst_o, bin_v, bin_o, bin_t, cmp_t, cmp_v, cmp_o, isN_t, isN_v, isi_t, isi_v, not_t, bop_v, bop_o, bop_t, ife_v, ife_o, idx_v, idx_o, slA_v, slA_o, slB_v, slB_o, call_v, call_o, call_t, callk_v, blt_v, blt_o, comp_v, comp_o, compIf_v, compIf_o, dict0_v, dict1_v, src_eq, rng1_v, zip_v, chain_t, as_nl, as_cs, ds_nl, ds_cs, os_nl, os_cs, vs_nl, vs_cs, es_nl, es_cs, bv_1, bv_2, bt_1, bt_2, s_nil, s_cons, s_set, s_setLc, s_par, s_unp, s_ite, s_loop, s_frz, s_app, rt_non, rt_bl, rt_int, rt_str, rt_glb, rt_tup, rt_lst, rt_bin, rt_cmp, rt_chain, rt_isN, rt_not, rt_bop, rt_ife, rt_idx, rt_slA, rt_slB, rt_call, rt_callk, rt_blt, rt_comp, rt_compIf, rt_isi, gR_s, rt_var, DV.dat, DV.fz, List.getElem?_cons_zero, List.getElem?_cons_succ, List.set_cons_zero, List.set_cons_succ, Option.map_some, Option.map_none, Option.bind_some, Option.bind_none, List.any_cons, List.any_nil, Bool.or_false, Bool.false_or, Bool.or_true, Bool.true_or, Bool.not_true, Bool.not_false, isTy, bltD, blt1, blt2, truthD, intD, setAll, setMany, isK, lenB, lenD]; rfl
      | [_] => simp only [bO_some, bO_none, lO_some, lO_none, iB_t, iB_f, thn_nx, thn_rt, thn_bk, thn_ct, endOf_rt, endOf_nx, kLift_a, kOk_a, kO2_a, kIte_t, kIte_f, kIfe_t, kIfe_f, kCall_a, kArgs_a, kArgs2_a, kVals_a, kVals2_a, kOpd_a, kOpd2_a, kDat_a, kDat2_a, kBV_a, kBV2_tt, kBV2_ff, kBV2_tf, kBV2_ft, kBT_tt, kBT_ff, kBT_tf, kBT_ft, kComp_a, kSrc_a, kChain_a, kChain2_a, kChain3_t, kChain3_f, kSet_a, kPar_a, kUnp_a, kFor_a, gV_d, gV_dk, gO_d, gO_o, var_v, var_o, var_t, oV_d, oV_own, tV_d, tV_own, vB_s, oB_s, non_v, non_o, bl_v, bl_o, bl_t, int_v, int_o, str_v, str_o, glb_v, glb_o, tup_v, tup_o, lst_v, lst_o, bin_v, bin_o, bin_t, cmp_t, cmp_v, cmp_o, isN_t, isN_v, isi_t, isi_v, not_t, bop_v, bop_o, bop_t, ife_v, ife_o, idx_v, idx_o, slA_v, slA_o, slB_v, slB_o, call_v, call_o, call_t, callk_v, blt_v, blt_o, comp_v, comp_o, compIf_v, compIf_o, dict0_v, dict1_v, src_eq, rng1_v, zip_v, chain_t, as_nl, as_cs, ds_nl, ds_cs, os_nl, os_cs, vs_nl, vs_cs, es_nl, es_cs, bv_1, bv_2, bt_1, bt_2, s_nil, s_cons, s_set, s_setLc, s_par, s_unp, s_ite, s_loop, s_frz, s_app, rt_non, rt_bl, rt_int, rt_str, rt_glb, rt_tup, rt_lst, rt_bin, rt_cmp, rt_chain, rt_isN, rt_not, rt_bop, rt_ife, rt_idx, rt_slA, rt_slB, rt_call, rt_callk, rt_blt, rt_comp, rt_compIf, rt_isi, gR_s, rt_var, DV.dat, DV.fz, List.getElem?_cons_zero, List.getElem?_cons_succ, List.set_cons_zero, List.set_cons_succ, Option.map_some, Option.map_none, Option.bind_some, Option.bind_none, List.any_cons, List.any_nil, Bool.or_false, Bool.false_or, Bool.or_true, Bool.true_or, Bool.not_true, Bool.not_false, isTy, bltD, blt1, blt2, truthD, intD, setAll, setMany, isK, lenB, lenD]; rfl
      | a :: b :: c :: r' => simp only [bO_some, bO_none, lO_some, lO_none, iB_t, iB_f, thn_nx, thn_rt, thn_bk, thn_ct, endOf_rt, endOf_nx, kLift_a, kOk_a, kO2_a, kIte_t, kIte_f, kIfe_t, kIfe_f, kCall_a, kArgs_a, kArgs2_a, kVals_a, kVals2_a, kOpd_a, kOpd2_a, kDat_a, kDat2_a, kBV_a, kBV2_tt, kBV2_ff, kBV2_tf, kBV2_ft, kBT_tt, kBT_ff, kBT_tf, kBT_ft, kComp_a, kSrc_a, kChain_a, kChain2_a, kChain3_t, kChain3_f, kSet_a, kPar_a, kUnp_a, kFor_a, gV_d, gV_dk, gO_d, gO_o, var_v, var_o, var_t, oV_d, oV_own, tV_d, tV_own, vB_s, oB_s, non_v, non_o, bl_v, bl_o, bl_t, int_v, int_o, str_v, str_o, glb_v, glb_o, tup_v, tup_o, lst_v, lst_o, bin_v, bin_o, bin_t, cmp_t, cmp_v, cmp_o, isN_t, isN_v, isi_t, isi_v, not_t, bop_v, bop_o, bop_t, ife_v, ife_o, idx_v, idx_o, slA_v, slA_o, slB_v, slB_o, call_v, call_o, call_t, callk_v, blt_v, blt_o, comp_v, comp_o, compIf_v, compIf_o, dict0_v, dict1_v, src_eq, rng1_v, zip_v, chain_t, as_nl, as_cs, ds_nl, ds_cs, os_nl, os_cs, vs_nl, vs_cs, es_nl, es_cs, bv_1, bv_2, bt_1, bt_2, s_nil, s_cons, s_set, s_setLc, s_par, s_unp, s_ite, s_loop, s_frz, s_app, rt_non, rt_bl, rt_int, rt_str, rt_glb, rt_tup, rt_lst, rt_bin, rt_cmp, rt_chain, rt_isN, rt_not, rt_bop, rt_ife, rt_idx, rt_slA, rt_slB, rt_call, rt_callk, rt_blt, rt_comp, rt_compIf, rt_isi, gR_s, rt_var, DV.dat, DV.fz, List.getElem?_cons_zero, List.getElem?_cons_succ, List.set_cons_zero, List.set_cons_succ, Option.map_some, Option.map_none, Option.bind_some, Option.bind_none, List.any_cons, List.any_nil, Bool.or_false, Bool.false_or, Bool.or_true, Bool.true_or, Bool.not_true, Bool.not_false, isTy, bltD, blt1, blt2, truthD, intD, setAll, setMany, isK, lenB, lenD, lenNe]
      | [w, i] =>
        have l2 : cmpD .NotEq (.int (([w, i] : List PyData).length : Int)) (.int 2) = some false := rfl
        have i0 : idxV (.tuple [w, i]) (.int 0) = some (.d w) := rfl
        have i1 : idxV (.tuple [w, i]) (.int 1) = some (.d i) := rfl
        cases w with
        | str w =>
          simp only [bO_some, bO_none, lO_some, lO_none, iB_t, iB_f, thn_nx, thn_rt, thn_bk, thn_ct, endOf_rt, endOf_nx, kLift_a, kOk_a, kO2_a, kIte_t, kIte_f, kIfe_t, kIfe_f, kCall_a, kArgs_a, kArgs2_a, kVals_a, kVals2_a, kOpd_a, kOpd2_a, kDat_a, kDat2_a, kBV_a, kBV2_tt, kBV2_ff, kBV2_tf, kBV2_ft, kBT_tt, kBT_ff, kBT_tf, kBT_ft, kComp_a, kSrc_a, kChain_a, kChain2_a, kChain3_t, kChain3_f, kSet_a, kPar_a, kUnp_a, kFor_a, gV_d, gV_dk, gO_d, gO_o, var_v, var_o, var_t, oV_d, oV_own, tV_d, tV_own, vB_s, oB_s, non_v, non_o, bl_v, bl_o, bl_t, int_v, int_o, str_v, str_o, glb_v, glb_o, tup_v, tup_o, lst_v, lst_o, bin_v, bin_o, bin_t, cmp_t, cmp_v, cmp_o, isN_t, isN_v, isi_t, isi_v, not_t, bop_v, bop_o, bop_t, ife_v, ife_o, idx_v, idx_o, slA_v, slA_o, slB_v, slB_o, call_v, call_o, call_t, callk_v, blt_v, blt_o, comp_v, comp_o, compIf_v, compIf_o, dict0_v, dict1_v, src_eq, rng1_v, zip_v, chain_t, as_nl, as_cs, ds_nl, ds_cs, os_nl, os_cs, vs_nl, vs_cs, es_nl, es_cs, bv_1, bv_2, bt_1, bt_2, s_nil, s_cons, s_set, s_setLc, s_par, s_unp, s_ite, s_loop, s_frz, s_app, rt_non, rt_bl, rt_int, rt_str, rt_glb, rt_tup, rt_lst, rt_bin, rt_cmp, rt_chain, rt_isN, rt_not, rt_bop, rt_ife, rt_idx, rt_slA, rt_slB, rt_call, rt_callk, rt_blt, rt_comp, rt_compIf, rt_isi, gR_s, rt_var, DV.dat, DV.fz, List.getElem?_cons_zero, List.getElem?_cons_succ, List.set_cons_zero, List.set_cons_succ, Option.map_some, Option.map_none, Option.bind_some, Option.bind_none, List.any_cons, List.any_nil, Bool.or_false, Bool.false_or, Bool.or_true, Bool.true_or, Bool.not_true, Bool.not_false, isTy, bltD, blt1, blt2, truthD, intD, setAll, setMany, lenB, lenD, l2, i0, i1, eqS]
          by_cases hw : w = "set"
          · subst hw
            simp only [bO_some, bO_none, lO_some, lO_none, iB_t, iB_f, thn_nx, thn_rt, thn_bk, thn_ct, endOf_rt, endOf_nx, kLift_a, kOk_a, kO2_a, kIte_t, kIte_f, kIfe_t, kIfe_f, kCall_a, kArgs_a, kArgs2_a, kVals_a, kVals2_a, kOpd_a, kOpd2_a, kDat_a, kDat2_a, kBV_a, kBV2_tt, kBV2_ff, kBV2_tf, kBV2_ft, kBT_tt, kBT_ff, kBT_tf, kBT_ft, kComp_a, kSrc_a, kChain_a, kChain2_a, kChain3_t, kChain3_f, kSet_a, kPar_a, kUnp_a, kFor_a, gV_d, gV_dk, gO_d, gO_o, var_v, var_o, var_t, oV_d, oV_own, tV_d, tV_own, vB_s, oB_s, non_v, non_o, bl_v, bl_o, bl_t, int_v, int_o, str_v, str_o, glb_v, glb_o, tup_v, tup_o, lst_v, lst_o, bin_v, bin_o, bin_t, cmp_t, cmp_v, cmp_o, isN_t, isN_v, isi_t, isi_v, not_t, bop_v, bop_o, bop_t, ife_v, ife_o, idx_v, idx_o, slA_v, slA_o, slB_v, slB_o, call_v, call_o, call_t, callk_v, blt_v, blt_o, comp_v, comp_o, compIf_v, compIf_o, dict0_v, dict1_v, src_eq, rng1_v, zip_v, chain_t, as_nl, as_cs, ds_nl, ds_cs, os_nl, os_cs, vs_nl, vs_cs, es_nl, es_cs, bv_1, bv_2, bt_1, bt_2, s_nil, s_cons, s_set, s_setLc, s_par, s_unp, s_ite, s_loop, s_frz, s_app, rt_non, rt_bl, rt_int, rt_str, rt_glb, rt_tup, rt_lst, rt_bin, rt_cmp, rt_chain, rt_isN, rt_not, rt_bop, rt_ife, rt_idx, rt_slA, rt_slB, rt_call, rt_callk, rt_blt, rt_comp, rt_compIf, rt_isi, gR_s, rt_var, DV.dat, DV.fz, List.getElem?_cons_zero, List.getElem?_cons_succ, List.set_cons_zero, List.set_cons_succ, Option.map_some, Option.map_none, Option.bind_some, Option.bind_none, List.any_cons, List.any_nil, Bool.or_false, Bool.false_or, Bool.or_true, Bool.true_or, Bool.not_true, Bool.not_false, isTy, bltD, blt1, blt2, truthD, intD, setAll, setMany, beq_self_eq_true, gt0, isK, if_true, i1]
            by_cases hs : 0 < s
            · have ih := own_ok n (s - 1) r i k (by omega)
              cases hi : isNone i <;> simp only [bO_some, bO_none, lO_some, lO_none, iB_t, iB_f, thn_nx, thn_rt, thn_bk, thn_ct, endOf_rt, endOf_nx, kLift_a, kOk_a, kO2_a, kIte_t, kIte_f, kIfe_t, kIfe_f, kCall_a, kArgs_a, kArgs2_a, kVals_a, kVals2_a, kOpd_a, kOpd2_a, kDat_a, kDat2_a, kBV_a, kBV2_tt, kBV2_ff, kBV2_tf, kBV2_ft, kBT_tt, kBT_ff, kBT_tf, kBT_ft, kComp_a, kSrc_a, kChain_a, kChain2_a, kChain3_t, kChain3_f, kSet_a, kPar_a, kUnp_a, kFor_a, gV_d, gV_dk, gO_d, gO_o, var_v, var_o, var_t, oV_d, oV_own, tV_d, tV_own, vB_s, oB_s, non_v, non_o, bl_v, bl_o, bl_t, int_v, int_o, str_v, str_o, glb_v, glb_o, tup_v, tup_o, lst_v, lst_o, bin_v, bin_o, bin_t, cmp_t, cmp_v, cmp_o, isN_t, isN_v, isi_t, isi_v, not_t, bop_v, bop_o, bop_t, ife_v, ife_o, idx_v, idx_o, slA_v, slA_o, slB_v, slB_o, call_v, call_o, call_t, callk_v, blt_v, blt_o, comp_v, comp_o, compIf_v, compIf_o, dict0_v, dict1_v, src_eq, rng1_v, zip_v, chain_t, as_nl, as_cs, ds_nl, ds_cs, os_nl, os_cs, vs_nl, vs_cs, es_nl, es_cs, bv_1, bv_2, bt_1, bt_2, s_nil, s_cons, s_set, s_setLc, s_par, s_unp, s_ite, s_loop, s_frz, s_app, rt_non, rt_bl, rt_int, rt_str, rt_glb, rt_tup, rt_lst, rt_bin, rt_cmp, rt_chain, rt_isN, rt_not, rt_bop, rt_ife, rt_idx, rt_slA, rt_slB, rt_call, rt_callk, rt_blt, rt_comp, rt_compIf, rt_isi, gR_s, rt_var, DV.dat, DV.fz, List.getElem?_cons_zero, List.getElem?_cons_succ, List.set_cons_zero, List.set_cons_succ, Option.map_some, Option.map_none, Option.bind_some, Option.bind_none, List.any_cons, List.any_nil, Bool.or_false, Bool.false_or, Bool.or_true, Bool.true_or, Bool.not_true, Bool.not_false, isTy, bltD, blt1, blt2, truthD, intD, setAll, setMany, hs, decide_true, hi, sub1 hs, ih, Bool.true_and, i1]
            · simp only [bO_some, bO_none, lO_some, lO_none, iB_t, iB_f, thn_nx, thn_rt, thn_bk, thn_ct, endOf_rt, endOf_nx, kLift_a, kOk_a, kO2_a, kIte_t, kIte_f, kIfe_t, kIfe_f, kCall_a, kArgs_a, kArgs2_a, kVals_a, kVals2_a, kOpd_a, kOpd2_a, kDat_a, kDat2_a, kBV_a, kBV2_tt, kBV2_ff, kBV2_tf, kBV2_ft, kBT_tt, kBT_ff, kBT_tf, kBT_ft, kComp_a, kSrc_a, kChain_a, kChain2_a, kChain3_t, kChain3_f, kSet_a, kPar_a, kUnp_a, kFor_a, gV_d, gV_dk, gO_d, gO_o, var_v, var_o, var_t, oV_d, oV_own, tV_d, tV_own, vB_s, oB_s, non_v, non_o, bl_v, bl_o, bl_t, int_v, int_o, str_v, str_o, glb_v, glb_o, tup_v, tup_o, lst_v, lst_o, bin_v, bin_o, bin_t, cmp_t, cmp_v, cmp_o, isN_t, isN_v, isi_t, isi_v, not_t, bop_v, bop_o, bop_t, ife_v, ife_o, idx_v, idx_o, slA_v, slA_o, slB_v, slB_o, call_v, call_o, call_t, callk_v, blt_v, blt_o, comp_v, comp_o, compIf_v, compIf_o, dict0_v, dict1_v, src_eq, rng1_v, zip_v, chain_t, as_nl, as_cs, ds_nl, ds_cs, os_nl, os_cs, vs_nl, vs_cs, es_nl, es_cs, bv_1, bv_2, bt_1, bt_2, s_nil, s_cons, s_set, s_setLc, s_par, s_unp, s_ite, s_loop, s_frz, s_app, rt_non, rt_bl, rt_int, rt_str, rt_glb, rt_tup, rt_lst, rt_bin, rt_cmp, rt_chain, rt_isN, rt_not, rt_bop, rt_ife, rt_idx, rt_slA, rt_slB, rt_call, rt_callk, rt_blt, rt_comp, rt_compIf, rt_isi, gR_s, rt_var, DV.dat, DV.fz, List.getElem?_cons_zero, List.getElem?_cons_succ, List.set_cons_zero, List.set_cons_succ, Option.map_some, Option.map_none, Option.bind_some, Option.bind_none, List.any_cons, List.any_nil, Bool.or_false, Bool.false_or, Bool.or_true, Bool.true_or, Bool.not_true, Bool.not_false, isTy, bltD, blt1, blt2, truthD, intD, setAll, setMany, hs, decide_false, Bool.false_and]
          · simp only [bO_some, bO_none, lO_some, lO_none, iB_t, iB_f, thn_nx, thn_rt, thn_bk, thn_ct, endOf_rt, endOf_nx, kLift_a, kOk_a, kO2_a, kIte_t, kIte_f, kIfe_t, kIfe_f, kCall_a, kArgs_a, kArgs2_a, kVals_a, kVals2_a, kOpd_a, kOpd2_a, kDat_a, kDat2_a, kBV_a, kBV2_tt, kBV2_ff, kBV2_tf, kBV2_ft, kBT_tt, kBT_ff, kBT_tf, kBT_ft, kComp_a, kSrc_a, kChain_a, kChain2_a, kChain3_t, kChain3_f, kSet_a, kPar_a, kUnp_a, kFor_a, gV_d, gV_dk, gO_d, gO_o, var_v, var_o, var_t, oV_d, oV_own, tV_d, tV_own, vB_s, oB_s, non_v, non_o, bl_v, bl_o, bl_t, int_v, int_o, str_v, str_o, glb_v, glb_o, tup_v, tup_o, lst_v, lst_o, bin_v, bin_o, bin_t, cmp_t, cmp_v, cmp_o, isN_t, isN_v, isi_t, isi_v, not_t, bop_v, bop_o, bop_t, ife_v, ife_o, idx_v, idx_o, slA_v, slA_o, slB_v, slB_o, call_v, call_o, call_t, callk_v, blt_v, blt_o, comp_v, comp_o, compIf_v, compIf_o, dict0_v, dict1_v, src_eq, rng1_v, zip_v, chain_t, as_nl, as_cs, ds_nl, ds_cs, os_nl, os_cs, vs_nl, vs_cs, es_nl, es_cs, bv_1, bv_2, bt_1, bt_2, s_nil, s_cons, s_set, s_setLc, s_par, s_unp, s_ite, s_loop, s_frz, s_app, rt_non, rt_bl, rt_int, rt_str, rt_glb, rt_tup, rt_lst, rt_bin, rt_cmp, rt_chain, rt_isN, rt_not, rt_bop, rt_ife, rt_idx, rt_slA, rt_slB, rt_call, rt_callk, rt_blt, rt_comp, rt_compIf, rt_isi, gR_s, rt_var, DV.dat, DV.fz, List.getElem?_cons_zero, List.getElem?_cons_succ, List.set_cons_zero, List.set_cons_succ, Option.map_some, Option.map_none, Option.bind_some, Option.bind_none, List.any_cons, List.any_nil, Bool.or_false, Bool.false_or, Bool.or_true, Bool.true_or, Bool.not_true, Bool.not_false, isTy, bltD, blt1, blt2, truthD, intD, setAll, setMany, beq_eq_false_iff_ne.mpr hw, neS, isK, hw, if_false, i0]
            by_cases hr : w = "row"
            · subst hr
              simp only [bO_some, bO_none, lO_some, lO_none, iB_t, iB_f, thn_nx, thn_rt, thn_bk, thn_ct, endOf_rt, endOf_nx, kLift_a, kOk_a, kO2_a, kIte_t, kIte_f, kIfe_t, kIfe_f, kCall_a, kArgs_a, kArgs2_a, kVals_a, kVals2_a, kOpd_a, kOpd2_a, kDat_a, kDat2_a, kBV_a, kBV2_tt, kBV2_ff, kBV2_tf, kBV2_ft, kBT_tt, kBT_ff, kBT_tf, kBT_ft, kComp_a, kSrc_a, kChain_a, kChain2_a, kChain3_t, kChain3_f, kSet_a, kPar_a, kUnp_a, kFor_a, gV_d, gV_dk, gO_d, gO_o, var_v, var_o, var_t, oV_d, oV_own, tV_d, tV_own, vB_s, oB_s, non_v, non_o, bl_v, bl_o, bl_t, int_v, int_o, str_v, str_o, glb_v, glb_o, tup_v, tup_o, lst_v, lst_o, bin_v, bin_o, bin_t, cmp_t, cmp_v, cmp_o, isN_t, isN_v, isi_t, isi_v, not_t, bop_v, bop_o, bop_t, ife_v, ife_o, idx_v, idx_o, slA_v, slA_o, slB_v, slB_o, call_v, call_o, call_t, callk_v, blt_v, blt_o, comp_v, comp_o, compIf_v, compIf_o, dict0_v, dict1_v, src_eq, rng1_v, zip_v, chain_t, as_nl, as_cs, ds_nl, ds_cs, os_nl, os_cs, vs_nl, vs_cs, es_nl, es_cs, bv_1, bv_2, bt_1, bt_2, s_nil, s_cons, s_set, s_setLc, s_par, s_unp, s_ite, s_loop, s_frz, s_app, rt_non, rt_bl, rt_int, rt_str, rt_glb, rt_tup, rt_lst, rt_bin, rt_cmp, rt_chain, rt_isN, rt_not, rt_bop, rt_ife, rt_idx, rt_slA, rt_slB, rt_call, rt_callk, rt_blt, rt_comp, rt_compIf, rt_isi, gR_s, rt_var, DV.dat, DV.fz, List.getElem?_cons_zero, List.getElem?_cons_succ, List.set_cons_zero, List.set_cons_succ, Option.map_some, Option.map_none, Option.bind_some, Option.bind_none, List.any_cons, List.any_nil, Bool.or_false, Bool.false_or, Bool.or_true, Bool.true_or, Bool.not_true, Bool.not_false, isTy, bltD, blt1, blt2, truthD, intD, setAll, setMany, beq_self_eq_true, eq0, true_and]
              by_cases h0 : r = 0
              · subst h0
                simp only [bO_some, bO_none, lO_some, lO_none, iB_t, iB_f, thn_nx, thn_rt, thn_bk, thn_ct, endOf_rt, endOf_nx, kLift_a, kOk_a, kO2_a, kIte_t, kIte_f, kIfe_t, kIfe_f, kCall_a, kArgs_a, kArgs2_a, kVals_a, kVals2_a, kOpd_a, kOpd2_a, kDat_a, kDat2_a, kBV_a, kBV2_tt, kBV2_ff, kBV2_tf, kBV2_ft, kBT_tt, kBT_ff, kBT_tf, kBT_ft, kComp_a, kSrc_a, kChain_a, kChain2_a, kChain3_t, kChain3_f, kSet_a, kPar_a, kUnp_a, kFor_a, gV_d, gV_dk, gO_d, gO_o, var_v, var_o, var_t, oV_d, oV_own, tV_d, tV_own, vB_s, oB_s, non_v, non_o, bl_v, bl_o, bl_t, int_v, int_o, str_v, str_o, glb_v, glb_o, tup_v, tup_o, lst_v, lst_o, bin_v, bin_o, bin_t, cmp_t, cmp_v, cmp_o, isN_t, isN_v, isi_t, isi_v, not_t, bop_v, bop_o, bop_t, ife_v, ife_o, idx_v, idx_o, slA_v, slA_o, slB_v, slB_o, call_v, call_o, call_t, callk_v, blt_v, blt_o, comp_v, comp_o, compIf_v, compIf_o, dict0_v, dict1_v, src_eq, rng1_v, zip_v, chain_t, as_nl, as_cs, ds_nl, ds_cs, os_nl, os_cs, vs_nl, vs_cs, es_nl, es_cs, bv_1, bv_2, bt_1, bt_2, s_nil, s_cons, s_set, s_setLc, s_par, s_unp, s_ite, s_loop, s_frz, s_app, rt_non, rt_bl, rt_int, rt_str, rt_glb, rt_tup, rt_lst, rt_bin, rt_cmp, rt_chain, rt_isN, rt_not, rt_bop, rt_ife, rt_idx, rt_slA, rt_slB, rt_call, rt_callk, rt_blt, rt_comp, rt_compIf, rt_isi, gR_s, rt_var, DV.dat, DV.fz, List.getElem?_cons_zero, List.getElem?_cons_succ, List.set_cons_zero, List.set_cons_succ, Option.map_some, Option.map_none, Option.bind_some, Option.bind_none, List.any_cons, List.any_nil, Bool.or_false, Bool.false_or, Bool.or_true, Bool.true_or, Bool.not_true, Bool.not_false, isTy, bltD, blt1, blt2, truthD, intD, setAll, setMany, decide_true]
                rfl
              · have h0' : 0 < r := by omega
                simp only [bO_some, bO_none, lO_some, lO_none, iB_t, iB_f, thn_nx, thn_rt, thn_bk, thn_ct, endOf_rt, endOf_nx, kLift_a, kOk_a, kO2_a, kIte_t, kIte_f, kIfe_t, kIfe_f, kCall_a, kArgs_a, kArgs2_a, kVals_a, kVals2_a, kOpd_a, kOpd2_a, kDat_a, kDat2_a, kBV_a, kBV2_tt, kBV2_ff, kBV2_tf, kBV2_ft, kBT_tt, kBT_ff, kBT_tf, kBT_ft, kComp_a, kSrc_a, kChain_a, kChain2_a, kChain3_t, kChain3_f, kSet_a, kPar_a, kUnp_a, kFor_a, gV_d, gV_dk, gO_d, gO_o, var_v, var_o, var_t, oV_d, oV_own, tV_d, tV_own, vB_s, oB_s, non_v, non_o, bl_v, bl_o, bl_t, int_v, int_o, str_v, str_o, glb_v, glb_o, tup_v, tup_o, lst_v, lst_o, bin_v, bin_o, bin_t, cmp_t, cmp_v, cmp_o, isN_t, isN_v, isi_t, isi_v, not_t, bop_v, bop_o, bop_t, ife_v, ife_o, idx_v, idx_o, slA_v, slA_o, slB_v, slB_o, call_v, call_o, call_t, callk_v, blt_v, blt_o, comp_v, comp_o, compIf_v, compIf_o, dict0_v, dict1_v, src_eq, rng1_v, zip_v, chain_t, as_nl, as_cs, ds_nl, ds_cs, os_nl, os_cs, vs_nl, vs_cs, es_nl, es_cs, bv_1, bv_2, bt_1, bt_2, s_nil, s_cons, s_set, s_setLc, s_par, s_unp, s_ite, s_loop, s_frz, s_app, rt_non, rt_bl, rt_int, rt_str, rt_glb, rt_tup, rt_lst, rt_bin, rt_cmp, rt_chain, rt_isN, rt_not, rt_bop, rt_ife, rt_idx, rt_slA, rt_slB, rt_call, rt_callk, rt_blt, rt_comp, rt_compIf, rt_isi, gR_s, rt_var, DV.dat, DV.fz, List.getElem?_cons_zero, List.getElem?_cons_succ, List.set_cons_zero, List.set_cons_succ, Option.map_some, Option.map_none, Option.bind_some, Option.bind_none, List.any_cons, List.any_nil, Bool.or_false, Bool.false_or, Bool.or_true, Bool.true_or, Bool.not_true, Bool.not_false, isTy, bltD, blt1, blt2, truthD, intD, setAll, setMany, h0, decide_false, h0', if_true, i1]
                cases i with
                | tuple ks =>
                  simp only [bO_some, bO_none, lO_some, lO_none, iB_t, iB_f, thn_nx, thn_rt, thn_bk, thn_ct, endOf_rt, endOf_nx, kLift_a, kOk_a, kO2_a, kIte_t, kIte_f, kIfe_t, kIfe_f, kCall_a, kArgs_a, kArgs2_a, kVals_a, kVals2_a, kOpd_a, kOpd2_a, kDat_a, kDat2_a, kBV_a, kBV2_tt, kBV2_ff, kBV2_tf, kBV2_ft, kBT_tt, kBT_ff, kBT_tf, kBT_ft, kComp_a, kSrc_a, kChain_a, kChain2_a, kChain3_t, kChain3_f, kSet_a, kPar_a, kUnp_a, kFor_a, gV_d, gV_dk, gO_d, gO_o, var_v, var_o, var_t, oV_d, oV_own, tV_d, tV_own, vB_s, oB_s, non_v, non_o, bl_v, bl_o, bl_t, int_v, int_o, str_v, str_o, glb_v, glb_o, tup_v, tup_o, lst_v, lst_o, bin_v, bin_o, bin_t, cmp_t, cmp_v, cmp_o, isN_t, isN_v, isi_t, isi_v, not_t, bop_v, bop_o, bop_t, ife_v, ife_o, idx_v, idx_o, slA_v, slA_o, slB_v, slB_o, call_v, call_o, call_t, callk_v, blt_v, blt_o, comp_v, comp_o, compIf_v, compIf_o, dict0_v, dict1_v, src_eq, rng1_v, zip_v, chain_t, as_nl, as_cs, ds_nl, ds_cs, os_nl, os_cs, vs_nl, vs_cs, es_nl, es_cs, bv_1, bv_2, bt_1, bt_2, s_nil, s_cons, s_set, s_setLc, s_par, s_unp, s_ite, s_loop, s_frz, s_app, rt_non, rt_bl, rt_int, rt_str, rt_glb, rt_tup, rt_lst, rt_bin, rt_cmp, rt_chain, rt_isN, rt_not, rt_bop, rt_ife, rt_idx, rt_slA, rt_slB, rt_call, rt_callk, rt_blt, rt_comp, rt_compIf, rt_isi, gR_s, rt_var, DV.dat, DV.fz, List.getElem?_cons_zero, List.getElem?_cons_succ, List.set_cons_zero, List.set_cons_succ, Option.map_some, Option.map_none, Option.bind_some, Option.bind_none, List.any_cons, List.any_nil, Bool.or_false, Bool.false_or, Bool.or_true, Bool.true_or, Bool.not_true, Bool.not_false, isTy, bltD, blt1, blt2, truthD, intD, setAll, setMany, lenB, lenD, ltI, i1]
                  by_cases h1 : (0 : Int) < ks.length
                  · by_cases h4 : (ks.length : Int) < 5
                    · have cm := comp_filter (tg := 3) (e := (evA (CX n) b13_0).v) (c := (evA (CX n) b13_1).t) (f := fun x => !isK n s (r - 1) x) (ρ := [some (.d (.tuple [.str "row", .tuple ks])), some (.d (.int s)), some (.d (.int r)), none]) (k := k) ks fun x _ => by
                        have ih := own_ok n s (r - 1) x k (by omega)
                        constructor
                        · simp only [b13_1, bO_some, bO_none, lO_some, lO_none, iB_t, iB_f, thn_nx, thn_rt, thn_bk, thn_ct, endOf_rt, endOf_nx, kLift_a, kOk_a, kO2_a, kIte_t, kIte_f, kIfe_t, kIfe_f, kCall_a, kArgs_a, kArgs2_a, kVals_a, kVals2_a, kOpd_a, kOpd2_a, kDat_a, kDat2_a, kBV_a, kBV2_tt, kBV2_ff, kBV2_tf, kBV2_ft, kBT_tt, kBT_ff, kBT_tf, kBT_ft, kComp_a, kSrc_a, kChain_a, kChain2_a, kChain3_t, kChain3_f, kSet_a, kPar_a, kUnp_a, kFor_a, gV_d, gV_dk, gO_d, gO_o, var_v, var_o, var_t, oV_d, oV_own, tV_d, tV_own, vB_s, oB_s, non_v, non_o, bl_v, bl_o, bl_t, int_v, int_o, str_v, str_o, glb_v, glb_o, tup_v, tup_o, lst_v, lst_o, bin_v, bin_o, bin_t, cmp_t, cmp_v, cmp_o, isN_t, isN_v, isi_t, isi_v, not_t, bop_v, bop_o, bop_t, ife_v, ife_o, idx_v, idx_o, slA_v, slA_o, slB_v, slB_o, call_v, call_o, call_t, callk_v, blt_v, blt_o, comp_v, comp_o, compIf_v, compIf_o, dict0_v, dict1_v, src_eq, rng1_v, zip_v, chain_t, as_nl, as_cs, ds_nl, ds_cs, os_nl, os_cs, vs_nl, vs_cs, es_nl, es_cs, bv_1, bv_2, bt_1, bt_2, s_nil, s_cons, s_set, s_setLc, s_par, s_unp, s_ite, s_loop, s_frz, s_app, rt_non, rt_bl, rt_int, rt_str, rt_glb, rt_tup, rt_lst, rt_bin, rt_cmp, rt_chain, rt_isN, rt_not, rt_bop, rt_ife, rt_idx, rt_slA, rt_slB, rt_call, rt_callk, rt_blt, rt_comp, rt_compIf, rt_isi, gR_s, rt_var, DV.dat, DV.fz, List.getElem?_cons_zero, List.getElem?_cons_succ, List.set_cons_zero, List.set_cons_succ, Option.map_some, Option.map_none, Option.bind_some, Option.bind_none, List.any_cons, List.any_nil, Bool.or_false, Bool.false_or, Bool.or_true, Bool.true_or, Bool.not_true, Bool.not_false, isTy, bltD, blt1, blt2, truthD, intD, setAll, setMany, wipeE, sub1 h0', ih]
                        · simp only [b13_0, bO_some, bO_none, lO_some, lO_none, iB_t, iB_f, thn_nx, thn_rt, thn_bk, thn_ct, endOf_rt, endOf_nx, kLift_a, kOk_a, kO2_a, kIte_t, kIte_f, kIfe_t, kIfe_f, kCall_a, kArgs_a, kArgs2_a, kVals_a, kVals2_a, kOpd_a, kOpd2_a, kDat_a, kDat2_a, kBV_a, kBV2_tt, kBV2_ff, kBV2_tf, kBV2_ft, kBT_tt, kBT_ff, kBT_tf, kBT_ft, kComp_a, kSrc_a, kChain_a, kChain2_a, kChain3_t, kChain3_f, kSet_a, kPar_a, kUnp_a, kFor_a, gV_d, gV_dk, gO_d, gO_o, var_v, var_o, var_t, oV_d, oV_own, tV_d, tV_own, vB_s, oB_s, non_v, non_o, bl_v, bl_o, bl_t, int_v, int_o, str_v, str_o, glb_v, glb_o, tup_v, tup_o, lst_v, lst_o, bin_v, bin_o, bin_t, cmp_t, cmp_v, cmp_o, isN_t, isN_v, isi_t, isi_v, not_t, bop_v, bop_o, bop_t, ife_v, ife_o, idx_v, idx_o, slA_v, slA_o, slB_v, slB_o, call_v, call_o, call_t, callk_v, blt_v, blt_o, comp_v, comp_o, compIf_v, compIf_o, dict0_v, dict1_v, src_eq, rng1_v, zip_v, chain_t, as_nl, as_cs, ds_nl, ds_cs, os_nl, os_cs, vs_nl, vs_cs, es_nl, es_cs, bv_1, bv_2, bt_1, bt_2, s_nil, s_cons, s_set, s_setLc, s_par, s_unp, s_ite, s_loop, s_frz, s_app, rt_non, rt_bl, rt_int, rt_str, rt_glb, rt_tup, rt_lst, rt_bin, rt_cmp, rt_chain, rt_isN, rt_not, rt_bop, rt_ife, rt_idx, rt_slA, rt_slB, rt_call, rt_callk, rt_blt, rt_comp, rt_compIf, rt_isi, gR_s, rt_var, DV.dat, DV.fz, List.getElem?_cons_zero, List.getElem?_cons_succ, List.set_cons_zero, List.set_cons_succ, Option.map_some, Option.map_none, Option.bind_some, Option.bind_none, List.any_cons, List.any_nil, Bool.or_false, Bool.false_or, Bool.or_true, Bool.true_or, Bool.not_true, Bool.not_false, isTy, bltD, blt1, blt2, truthD, intD, setAll, setMany, wipeE]
                      have hl : ks.length ≤ sizeLine := by have : (4 : Nat) ≤ sizeLine := by decide
                                                           omega
                      have d1 : decide (1 ≤ ks.length ∧ ks.length ≤ 4) = true := by simp; omega
                      simp only [bO_some, bO_none, lO_some, lO_none, iB_t, iB_f, thn_nx, thn_rt, thn_bk, thn_ct, endOf_rt, endOf_nx, kLift_a, kOk_a, kO2_a, kIte_t, kIte_f, kIfe_t, kIfe_f, kCall_a, kArgs_a, kArgs2_a, kVals_a, kVals2_a, kOpd_a, kOpd2_a, kDat_a, kDat2_a, kBV_a, kBV2_tt, kBV2_ff, kBV2_tf, kBV2_ft, kBT_tt, kBT_ff, kBT_tf, kBT_ft, kComp_a, kSrc_a, kChain_a, kChain2_a, kChain3_t, kChain3_f, kSet_a, kPar_a, kUnp_a, kFor_a, gV_d, gV_dk, gO_d, gO_o, var_v, var_o, var_t, oV_d, oV_own, tV_d, tV_own, vB_s, oB_s, non_v, non_o, bl_v, bl_o, bl_t, int_v, int_o, str_v, str_o, glb_v, glb_o, tup_v, tup_o, lst_v, lst_o, bin_v, bin_o, bin_t, cmp_t, cmp_v, cmp_o, isN_t, isN_v, isi_t, isi_v, not_t, bop_v, bop_o, bop_t, ife_v, ife_o, idx_v, idx_o, slA_v, slA_o, slB_v, slB_o, call_v, call_o, call_t, callk_v, blt_v, blt_o, comp_v, comp_o, compIf_v, compIf_o, dict0_v, dict1_v, src_eq, rng1_v, zip_v, chain_t, as_nl, as_cs, ds_nl, ds_cs, os_nl, os_cs, vs_nl, vs_cs, es_nl, es_cs, bv_1, bv_2, bt_1, bt_2, s_nil, s_cons, s_set, s_setLc, s_par, s_unp, s_ite, s_loop, s_frz, s_app, rt_non, rt_bl, rt_int, rt_str, rt_glb, rt_tup, rt_lst, rt_bin, rt_cmp, rt_chain, rt_isN, rt_not, rt_bop, rt_ife, rt_idx, rt_slA, rt_slB, rt_call, rt_callk, rt_blt, rt_comp, rt_compIf, rt_isi, gR_s, rt_var, DV.dat, DV.fz, List.getElem?_cons_zero, List.getElem?_cons_succ, List.set_cons_zero, List.set_cons_succ, Option.map_some, Option.map_none, Option.bind_some, Option.bind_none, List.any_cons, List.any_nil, Bool.or_false, Bool.false_or, Bool.or_true, Bool.true_or, Bool.not_true, Bool.not_false, isTy, bltD, blt1, blt2, truthD, intD, setAll, setMany, h1, h4, ltI, decide_true, itemsD, srcL_ok hl, cm, d1, Bool.true_and, i1, eqNil, filt_all]
                    · have d1 : decide (1 ≤ ks.length ∧ ks.length ≤ 4) = false := by simp; omega
                      simp only [bO_some, bO_none, lO_some, lO_none, iB_t, iB_f, thn_nx, thn_rt, thn_bk, thn_ct, endOf_rt, endOf_nx, kLift_a, kOk_a, kO2_a, kIte_t, kIte_f, kIfe_t, kIfe_f, kCall_a, kArgs_a, kArgs2_a, kVals_a, kVals2_a, kOpd_a, kOpd2_a, kDat_a, kDat2_a, kBV_a, kBV2_tt, kBV2_ff, kBV2_tf, kBV2_ft, kBT_tt, kBT_ff, kBT_tf, kBT_ft, kComp_a, kSrc_a, kChain_a, kChain2_a, kChain3_t, kChain3_f, kSet_a, kPar_a, kUnp_a, kFor_a, gV_d, gV_dk, gO_d, gO_o, var_v, var_o, var_t, oV_d, oV_own, tV_d, tV_own, vB_s, oB_s, non_v, non_o, bl_v, bl_o, bl_t, int_v, int_o, str_v, str_o, glb_v, glb_o, tup_v, tup_o, lst_v, lst_o, bin_v, bin_o, bin_t, cmp_t, cmp_v, cmp_o, isN_t, isN_v, isi_t, isi_v, not_t, bop_v, bop_o, bop_t, ife_v, ife_o, idx_v, idx_o, slA_v, slA_o, slB_v, slB_o, call_v, call_o, call_t, callk_v, blt_v, blt_o, comp_v, comp_o, compIf_v, compIf_o, dict0_v, dict1_v, src_eq, rng1_v, zip_v, chain_t, as_nl, as_cs, ds_nl, ds_cs, os_nl, os_cs, vs_nl, vs_cs, es_nl, es_cs, bv_1, bv_2, bt_1, bt_2, s_nil, s_cons, s_set, s_setLc, s_par, s_unp, s_ite, s_loop, s_frz, s_app, rt_non, rt_bl, rt_int, rt_str, rt_glb, rt_tup, rt_lst, rt_bin, rt_cmp, rt_chain, rt_isN, rt_not, rt_bop, rt_ife, rt_idx, rt_slA, rt_slB, rt_call, rt_callk, rt_blt, rt_comp, rt_compIf, rt_isi, gR_s, rt_var, DV.dat, DV.fz, List.getElem?_cons_zero, List.getElem?_cons_succ, List.set_cons_zero, List.set_cons_succ, Option.map_some, Option.map_none, Option.bind_some, Option.bind_none, List.any_cons, List.any_nil, Bool.or_false, Bool.false_or, Bool.or_true, Bool.true_or, Bool.not_true, Bool.not_false, isTy, bltD, blt1, blt2, truthD, intD, setAll, setMany, h1, h4, ltI, decide_true, decide_false, d1, Bool.false_and]
                  · have d1 : decide (1 ≤ ks.length ∧ ks.length ≤ 4) = false := by simp; omega
                    simp only [bO_some, bO_none, lO_some, lO_none, iB_t, iB_f, thn_nx, thn_rt, thn_bk, thn_ct, endOf_rt, endOf_nx, kLift_a, kOk_a, kO2_a, kIte_t, kIte_f, kIfe_t, kIfe_f, kCall_a, kArgs_a, kArgs2_a, kVals_a, kVals2_a, kOpd_a, kOpd2_a, kDat_a, kDat2_a, kBV_a, kBV2_tt, kBV2_ff, kBV2_tf, kBV2_ft, kBT_tt, kBT_ff, kBT_tf, kBT_ft, kComp_a, kSrc_a, kChain_a, kChain2_a, kChain3_t, kChain3_f, kSet_a, kPar_a, kUnp_a, kFor_a, gV_d, gV_dk, gO_d, gO_o, var_v, var_o, var_t, oV_d, oV_own, tV_d, tV_own, vB_s, oB_s, non_v, non_o, bl_v, bl_o, bl_t, int_v, int_o, str_v, str_o, glb_v, glb_o, tup_v, tup_o, lst_v, lst_o, bin_v, bin_o, bin_t, cmp_t, cmp_v, cmp_o, isN_t, isN_v, isi_t, isi_v, not_t, bop_v, bop_o, bop_t, ife_v, ife_o, idx_v, idx_o, slA_v, slA_o, slB_v, slB_o, call_v, call_o, call_t, callk_v, blt_v, blt_o, comp_v, comp_o, compIf_v, compIf_o, dict0_v, dict1_v, src_eq, rng1_v, zip_v, chain_t, as_nl, as_cs, ds_nl, ds_cs, os_nl, os_cs, vs_nl, vs_cs, es_nl, es_cs, bv_1, bv_2, bt_1, bt_2, s_nil, s_cons, s_set, s_setLc, s_par, s_unp, s_ite, s_loop, s_frz, s_app, rt_non, rt_bl, rt_int, rt_str, rt_glb, rt_tup, rt_lst, rt_bin, rt_cmp, rt_chain, rt_isN, rt_not, rt_bop, rt_ife, rt_idx, rt_slA, rt_slB, rt_call, rt_callk, rt_blt, rt_comp, rt_compIf, rt_isi, gR_s, rt_var, DV.dat, DV.fz, List.getElem?_cons_zero, List.getElem?_cons_succ, List.set_cons_zero, List.set_cons_succ, Option.map_some, Option.map_none, Option.bind_some, Option.bind_none, List.any_cons, List.any_nil, Bool.or_false, Bool.false_or, Bool.or_true, Bool.true_or, Bool.not_true, Bool.not_false, isTy, bltD, blt1, blt2, truthD, intD, setAll, setMany, h1, decide_false, d1, Bool.false_and]
                | _ => simp only [bO_some, bO_none, lO_some, lO_none, iB_t, iB_f, thn_nx, thn_rt, thn_bk, thn_ct, endOf_rt, endOf_nx, kLift_a, kOk_a, kO2_a, kIte_t, kIte_f, kIfe_t, kIfe_f, kCall_a, kArgs_a, kArgs2_a, kVals_a, kVals2_a, kOpd_a, kOpd2_a, kDat_a, kDat2_a, kBV_a, kBV2_tt, kBV2_ff, kBV2_tf, kBV2_ft, kBT_tt, kBT_ff, kBT_tf, kBT_ft, kComp_a, kSrc_a, kChain_a, kChain2_a, kChain3_t, kChain3_f, kSet_a, kPar_a, kUnp_a, kFor_a, gV_d, gV_dk, gO_d, gO_o, var_v, var_o, var_t, oV_d, oV_own, tV_d, tV_own, vB_s, oB_s, non_v, non_o, bl_v, bl_o, bl_t, int_v, int_o, str_v, str_o, glb_v, glb_o, tup_v, tup_o, lst_v, lst_o, bin_v, bin_o, bin_t, cmp_t, cmp_v, cmp_o, isN_t, isN_v, isi_t, isi_v, not_t, bop_v, bop_o, bop_t, ife_v, ife_o, idx_v, idx_o, slA_v, slA_o, slB_v, slB_o, call_v, call_o, call_t, callk_v, blt_v, blt_o, comp_v, comp_o, compIf_v, compIf_o, dict0_v, dict1_v, src_eq, rng1_v, zip_v, chain_t, as_nl, as_cs, ds_nl, ds_cs, os_nl, os_cs, vs_nl, vs_cs, es_nl, es_cs, bv_1, bv_2, bt_1, bt_2, s_nil, s_cons, s_set, s_setLc, s_par, s_unp, s_ite, s_loop, s_frz, s_app, rt_non, rt_bl, rt_int, rt_str, rt_glb, rt_tup, rt_lst, rt_bin, rt_cmp, rt_chain, rt_isN, rt_not, rt_bop, rt_ife, rt_idx, rt_slA, rt_slB, rt_call, rt_callk, rt_blt, rt_comp, rt_compIf, rt_isi, gR_s, rt_var, DV.dat, DV.fz, List.getElem?_cons_zero, List.getElem?_cons_succ, List.set_cons_zero, List.set_cons_succ, Option.map_some, Option.map_none, Option.bind_some, Option.bind_none, List.any_cons, List.any_nil, Bool.or_false, Bool.false_or, Bool.or_true, Bool.true_or, Bool.not_true, Bool.not_false, isTy, bltD, blt1, blt2, truthD, intD, setAll, setMany]
            · simp only [bO_some, bO_none, lO_some, lO_none, iB_t, iB_f, thn_nx, thn_rt, thn_bk, thn_ct, endOf_rt, endOf_nx, kLift_a, kOk_a, kO2_a, kIte_t, kIte_f, kIfe_t, kIfe_f, kCall_a, kArgs_a, kArgs2_a, kVals_a, kVals2_a, kOpd_a, kOpd2_a, kDat_a, kDat2_a, kBV_a, kBV2_tt, kBV2_ff, kBV2_tf, kBV2_ft, kBT_tt, kBT_ff, kBT_tf, kBT_ft, kComp_a, kSrc_a, kChain_a, kChain2_a, kChain3_t, kChain3_f, kSet_a, kPar_a, kUnp_a, kFor_a, gV_d, gV_dk, gO_d, gO_o, var_v, var_o, var_t, oV_d, oV_own, tV_d, tV_own, vB_s, oB_s, non_v, non_o, bl_v, bl_o, bl_t, int_v, int_o, str_v, str_o, glb_v, glb_o, tup_v, tup_o, lst_v, lst_o, bin_v, bin_o, bin_t, cmp_t, cmp_v, cmp_o, isN_t, isN_v, isi_t, isi_v, not_t, bop_v, bop_o, bop_t, ife_v, ife_o, idx_v, idx_o, slA_v, slA_o, slB_v, slB_o, call_v, call_o, call_t, callk_v, blt_v, blt_o, comp_v, comp_o, compIf_v, compIf_o, dict0_v, dict1_v, src_eq, rng1_v, zip_v, chain_t, as_nl, as_cs, ds_nl, ds_cs, os_nl, os_cs, vs_nl, vs_cs, es_nl, es_cs, bv_1, bv_2, bt_1, bt_2, s_nil, s_cons, s_set, s_setLc, s_par, s_unp, s_ite, s_loop, s_frz, s_app, rt_non, rt_bl, rt_int, rt_str, rt_glb, rt_tup, rt_lst, rt_bin, rt_cmp, rt_chain, rt_isN, rt_not, rt_bop, rt_ife, rt_idx, rt_slA, rt_slB, rt_call, rt_callk, rt_blt, rt_comp, rt_compIf, rt_isi, gR_s, rt_var, DV.dat, DV.fz, List.getElem?_cons_zero, List.getElem?_cons_succ, List.set_cons_zero, List.set_cons_succ, Option.map_some, Option.map_none, Option.bind_some, Option.bind_none, List.any_cons, List.any_nil, Bool.or_false, Bool.false_or, Bool.or_true, Bool.true_or, Bool.not_true, Bool.not_false, isTy, bltD, blt1, blt2, truthD, intD, setAll, setMany, beq_eq_false_iff_ne.mpr hr, hr, false_and, if_false]
        | _ => simp only [bO_some, bO_none, lO_some, lO_none, iB_t, iB_f, thn_nx, thn_rt, thn_bk, thn_ct, endOf_rt, endOf_nx, kLift_a, kOk_a, kO2_a, kIte_t, kIte_f, kIfe_t, kIfe_f, kCall_a, kArgs_a, kArgs2_a, kVals_a, kVals2_a, kOpd_a, kOpd2_a, kDat_a, kDat2_a, kBV_a, kBV2_tt, kBV2_ff, kBV2_tf, kBV2_ft, kBT_tt, kBT_ff, kBT_tf, kBT_ft, kComp_a, kSrc_a, kChain_a, kChain2_a, kChain3_t, kChain3_f, kSet_a, kPar_a, kUnp_a, kFor_a, gV_d, gV_dk, gO_d, gO_o, var_v, var_o, var_t, oV_d, oV_own, tV_d, tV_own, vB_s, oB_s, non_v, non_o, bl_v, bl_o, bl_t, int_v, int_o, str_v, str_o, glb_v, glb_o, tup_v, tup_o, lst_v, lst_o, bin_v, bin_o, bin_t, cmp_t, cmp_v, cmp_o, isN_t, isN_v, isi_t, isi_v, not_t, bop_v, bop_o, bop_t, ife_v, ife_o, idx_v, idx_o, slA_v, slA_o, slB_v, slB_o, call_v, call_o, call_t, callk_v, blt_v, blt_o, comp_v, comp_o, compIf_v, compIf_o, dict0_v, dict1_v, src_eq, rng1_v, zip_v, chain_t, as_nl, as_cs, ds_nl, ds_cs, os_nl, os_cs, vs_nl, vs_cs, es_nl, es_cs, bv_1, bv_2, bt_1, bt_2, s_nil, s_cons, s_set, s_setLc, s_par, s_unp, s_ite, s_loop, s_frz, s_app, rt_non, rt_bl, rt_int, rt_str, rt_glb, rt_tup, rt_lst, rt_bin, rt_cmp, rt_chain, rt_isN, rt_not, rt_bop, rt_ife, rt_idx, rt_slA, rt_slB, rt_call, rt_callk, rt_blt, rt_comp, rt_compIf, rt_isi, gR_s, rt_var, DV.dat, DV.fz, List.getElem?_cons_zero, List.getElem?_cons_succ, List.set_cons_zero, List.set_cons_succ, Option.map_some, Option.map_none, Option.bind_some, Option.bind_none, List.any_cons, List.any_nil, Bool.or_false, Bool.false_or, Bool.or_true, Bool.true_or, Bool.not_true, Bool.not_false, isTy, bltD, blt1, blt2, truthD, intD, setAll, setMany, isK, lenB, lenD, l2, i0]
    | _ => simp only [bO_some, bO_none, lO_some, lO_none, iB_t, iB_f, thn_nx, thn_rt, thn_bk, thn_ct, endOf_rt, endOf_nx, kLift_a, kOk_a, kO2_a, kIte_t, kIte_f, kIfe_t, kIfe_f, kCall_a, kArgs_a, kArgs2_a, kVals_a, kVals2_a, kOpd_a, kOpd2_a, kDat_a, kDat2_a, kBV_a, kBV2_tt, kBV2_ff, kBV2_tf, kBV2_ft, kBT_tt, kBT_ff, kBT_tf, kBT_ft, kComp_a, kSrc_a, kChain_a, kChain2_a, kChain3_t, kChain3_f, kSet_a, kPar_a, kUnp_a, kFor_a, gV_d, gV_dk, gO_d, gO_o, var_v, var_o, var_t, oV_d, oV_own, tV_d, tV_own, vB_s, oB_s, non_v, non_o, bl_v, bl_o, bl_t, int_v, int_o, str_v, str_o, glb_v, glb_o, tup_v, tup_o, lst_v, lst_o, bin_v, bin_o, bin_t, cmp_t, cmp_v, cmp_o, isN_t, isN_v, isi_t, isi_v, not_t, bop_v, bop_o, bop_t, ife_v, ife_o, idx_v, idx_o, slA_v, slA_o, slB_v, slB_o, call_v, call_o, call_t, callk_v, blt_v, blt_o, comp_v, comp_o, compIf_v, compIf_o, dict0_v, dict1_v, src_eq, rng1_v, zip_v, chain_t, as_nl, as_cs, ds_nl, ds_cs, os_nl, os_cs, vs_nl, vs_cs, es_nl, es_cs, bv_1, bv_2, bt_1, bt_2, s_nil, s_cons, s_set, s_setLc, s_par, s_unp, s_ite, s_loop, s_frz, s_app, rt_non, rt_bl, rt_int, rt_str, rt_glb, rt_tup, rt_lst, rt_bin, rt_cmp, rt_chain, rt_isN, rt_not, rt_bop, rt_ife, rt_idx, rt_slA, rt_slB, rt_call, rt_callk, rt_blt, rt_comp, rt_compIf, rt_isi, gR_s, rt_var, DV.dat, DV.fz, List.getElem?_cons_zero, List.getElem?_cons_succ, List.set_cons_zero, List.set_cons_succ, Option.map_some, Option.map_none, Option.bind_some, Option.bind_none, List.any_cons, List.any_nil, Bool.or_false, Bool.false_or, Bool.or_true, Bool.true_or, Bool.not_true, Bool.not_false, isTy, bltD, blt1, blt2, truthD, intD, setAll, setMany, isK]
end K06

set_option maxHeartbeats 4000000
/-! k06: joining. -/
namespace K06
open PySem TA TM
abbrev St (d : PyData) : PyData := .tuple [.str "set", d]
abbrev Rw (ds : List PyData) : PyData := .tuple [.str "row", .tuple ds]
/-- a kind: n the depth at most -/
def Kd : Nat → PyData → Prop
  | 0, _ => False
  | n + 1, d => (∃ x, d = .str x ∧ pl x = true) ∨ d = St .none ∨ (∃ e, d = St e ∧ Kd n e) ∨ ∃ es, d = Rw es ∧ es ≠ [] ∧ es.length ≤ 4 ∧ ∀ e ∈ es, Kd n e
theorem Kd.mono : ∀ {n m : Nat} {d : PyData}, Kd n d → n ≤ m → Kd m d
  | 0, _, _, h, _ => h.elim
  | n + 1, 0, _, _, l => by omega
  | n + 1, m + 1, d, h, l => by
    rcases h with h | h | ⟨e, rfl, h⟩ | ⟨es, rfl, h1, h2, h3⟩
    · exact .inl h
    · exact .inr (.inl h)
    · exact .inr (.inr (.inl ⟨e, rfl, h.mono (by omega)⟩))
    · exact .inr (.inr (.inr ⟨es, rfl, h1, h2, fun e he => (h3 e he).mono (by omega)⟩))
theorem Kd.notNone : ∀ {n : Nat} {d : PyData}, Kd n d → isNone d = false
  | 0, _, h => h.elim
  | n + 1, d, h => by
    rcases h with ⟨x, rfl, _⟩ | rfl | ⟨e, rfl, _⟩ | ⟨es, rfl, _⟩ <;> rfl
/-- what is_kind says is a kind -/
theorem isK_kd : ∀ {n s r : Nat} {d : PyData}, isK n s r d = true → Kd n d
  | 0, _, _, _, h => by simp [isK] at h
  | n + 1, s, r, d, h => by
    unfold isK at h
    split at h
    · exact .inl ⟨_, rfl, h⟩
    · rename_i w i
      by_cases hw : w = "set"
      · rw [if_pos hw, Bool.and_eq_true, Bool.or_eq_true] at h
        subst hw
        rcases h.2 with h2 | h2
        · cases i <;> simp [isNone] at h2
          exact .inr (.inl rfl)
        · exact .inr (.inr (.inl ⟨i, rfl, isK_kd h2⟩))
      · rw [if_neg hw] at h
        split at h
        · rename_i hr
          obtain ⟨rfl, _⟩ := hr
          split at h
          · rename_i ks
            simp only [Bool.and_eq_true, decide_eq_true_eq, List.all_eq_true] at h
            exact .inr (.inr (.inr ⟨ks, rfl, by intro e; rw [e] at h; simp at h, h.1.2, fun e he => isK_kd (h.2 e he)⟩))
          · cases h
        · cases h
    · cases h
/-! ### the data of kinds: == is being the same -/
mutual
def cln : PyData → Bool
  | .none => true
  | .str _ => true
  | .tuple xs => clns xs
  | _ => false
def clns : List PyData → Bool
  | [] => true
  | x :: r => cln x && clns r
end
mutual
theorem eqv_iff : ∀ a b : PyData, cln a = true → cln b = true → (PyData.eqv a b = true ↔ a = b)
  | .none, b, _, hb => by cases b <;> simp [PyData.eqv, cln] at hb ⊢
  | .str x, b, _, hb => by cases b <;> simp [PyData.eqv, cln] at hb ⊢
  | .tuple xs, b, ha, hb => by
    cases b with
    | tuple ys =>
      simp only [cln] at ha hb
      simp only [PyData.eqv, eqvs_iff xs ys ha hb, PyData.tuple.injEq]
    | _ => simp [PyData.eqv, cln] at hb ⊢
  | .bool _, _, ha, _ => by simp [cln] at ha
  | .int _, _, ha, _ => by simp [cln] at ha
  | .list _, _, ha, _ => by simp [cln] at ha
  | .dict _, _, ha, _ => by simp [cln] at ha
theorem eqvs_iff : ∀ xs ys : List PyData, clns xs = true → clns ys = true → (PyData.eqvAll xs ys = true ↔ xs = ys)
  | [], [], _, _ => by simp [PyData.eqvAll]
  | [], _ :: _, _, _ => by simp [PyData.eqvAll]
  | _ :: _, [], _, _ => by simp [PyData.eqvAll]
  | x :: xs, y :: ys, ha, hb => by
    simp only [clns, Bool.and_eq_true] at ha hb
    simp only [PyData.eqvAll, Bool.and_eq_true, eqv_iff x y ha.1 hb.1, eqvs_iff xs ys ha.2 hb.2, List.cons.injEq]
end
theorem clns_iff : ∀ {xs : List PyData}, (∀ x ∈ xs, cln x = true) → clns xs = true
  | [], _ => rfl
  | x :: r, h => by rw [clns, h x List.mem_cons_self, clns_iff fun y hy => h y (List.mem_cons_of_mem _ hy)]; rfl
theorem lays_iff : ∀ {xs : List PyData}, (∀ x ∈ xs, PyData.canLay0 x = true) → PyData.canLayAll0 xs = true
  | [], _ => by simp [PyData.canLayAll0]
  | x :: r, h => by simp [PyData.canLayAll0, h x List.mem_cons_self, lays_iff fun y hy => h y (List.mem_cons_of_mem _ hy)]
theorem deps_le {m : Nat} : ∀ {xs : List PyData}, (∀ x ∈ xs, PyData.depth x ≤ m) → PyData.depthAll xs ≤ m
  | [], _ => by simp [PyData.depthAll]
  | x :: r, h => by
    have h1 := h x List.mem_cons_self
    have h2 := deps_le fun y hy => h y (List.mem_cons_of_mem _ hy)
    simp only [PyData.depthAll]
    omega
structure Nice (m : Nat) (d : PyData) : Prop where
  c : cln d = true
  l : PyData.canLay0 d = true
  p : PyData.depth d ≤ m
theorem Nice.tup {m : Nat} {xs : List PyData} (h : ∀ x ∈ xs, Nice m x) : Nice (m + 1) (.tuple xs) where
  c := by rw [cln]; exact clns_iff fun x hx => (h x hx).c
  l := by rw [PyData.canLay0]; exact lays_iff fun x hx => (h x hx).l
  p := by
    have := deps_le fun x hx => (h x hx).p
    simp only [PyData.depth]
    omega
theorem Nice.mono {m n : Nat} {d : PyData} (h : Nice m d) (l : m ≤ n) : Nice n d := ⟨h.c, h.l, Nat.le_trans h.p l⟩
theorem nice_none (m : Nat) : Nice m .none := ⟨rfl, rfl, by simp [PyData.depth]⟩
theorem nice_set (m : Nat) : Nice m (.str "set") := ⟨rfl, by decide +kernel, by simp [PyData.depth]⟩
theorem nice_row (m : Nat) : Nice m (.str "row") := ⟨rfl, by decide +kernel, by simp [PyData.depth]⟩
theorem Nice.st {m : Nat} {d : PyData} (h : Nice m d) : Nice (m + 1) (St d) := Nice.tup fun x hx => by
  simp only [List.mem_cons, List.not_mem_nil, or_false] at hx
  rcases hx with rfl | rfl
  · exact nice_set m
  · exact h
theorem Nice.rw {m : Nat} {ds : List PyData} (h : ∀ x ∈ ds, Nice m x) : Nice (m + 2) (Rw ds) := Nice.tup fun x hx => by
  simp only [List.mem_cons, List.not_mem_nil, or_false] at hx
  rcases hx with rfl | rfl
  · exact nice_row _
  · exact Nice.tup h
theorem Kd.nice : ∀ {n : Nat} {d : PyData}, Kd n d → Nice (2 * n) d
  | 0, _, h => h.elim
  | n + 1, d, h => by
    rcases h with ⟨x, rfl, hx⟩ | rfl | ⟨e, rfl, h⟩ | ⟨es, rfl, _, _, h⟩
    · refine ⟨rfl, ?_, by simp [PyData.depth]⟩
      simp only [pl, Bool.or_eq_true, beq_iff_eq, Bool.false_eq_true, or_false] at hx
      rcases hx with rfl | rfl | rfl <;> decide +kernel
    · exact ((nice_none 0).st).mono (by omega)
    · exact h.nice.st.mono (by omega)
    · exact (Nice.rw fun x hx => (h x hx).nice).mono (by omega)
theorem Nice.shaped {m : Nat} {d : PyData} (h : Nice m d) (l : m ≤ 64) : SeqAt.shaped d = true := by
  simp only [SeqAt.shaped, h.l, Bool.true_and, decide_eq_true_eq]
  exact Nat.le_trans h.p l
theorem eqD {m : Nat} {a b : PyData} (ha : Nice m a) (hb : Nice m b) (l : m ≤ 64) : cmpD .Eq a b = some (PyData.eqv a b) := by
  have e1 := ha.shaped l
  have e2 := hb.shaped l
  cases a <;> cases b <;> simp [cmpD, e1, e2, PyData.eqv]
  all_goals first | (have := ha.c; simp [cln] at this; done) | skip
theorem neD {m : Nat} {a b : PyData} (ha : Nice m a) (hb : Nice m b) (l : m ≤ 64) : cmpD .NotEq a b = some (!PyData.eqv a b) := by
  have e1 := ha.shaped l
  have e2 := hb.shaped l
  cases a <;> cases b <;> simp [cmpD, e1, e2, PyData.eqv]
/-! ### joining, in plain -/
def Jl (f : PyData → PyData → Option PyData) : List PyData → List PyData → Option (List PyData)
  | x :: xs, y :: ys => match f x y, Jl f xs ys with
    | some z, some zs => some (z :: zs)
    | _, _ => none
  | _, _ => some []
def J : Nat → PyData → PyData → Option PyData
  | 0, _, _ => none
  | n + 1, a, b => if PyData.eqv a b then some a else match a, b with
    | .tuple [.str w, x], .tuple [.str v, y] =>
      if w = v then
        if w = "row" then match x, y with
          | .tuple xs, .tuple ys => if xs.length = ys.length then (Jl (J n) xs ys).map Rw else none
          | _, _ => none
        else if isNone x then some b else if isNone y then some a else (J n x y).map St
      else none
    | _, _ => none
theorem Jl_mem {f : PyData → PyData → Option PyData} : ∀ {xs ys zs : List PyData}, Jl f xs ys = some zs → ∀ z ∈ zs, ∃ x ∈ xs, ∃ y ∈ ys, f x y = some z
  | x :: xs, y :: ys, zs, h, z, hz => by
    rw [Jl] at h
    split at h
    · rename_i z1 zs1 h1 h2
      cases h
      rcases List.mem_cons.mp hz with rfl | hz
      · exact ⟨x, List.mem_cons_self, y, List.mem_cons_self, h1⟩
      · obtain ⟨x', hx, y', hy, e⟩ := Jl_mem h2 z hz
        exact ⟨x', List.mem_cons_of_mem _ hx, y', List.mem_cons_of_mem _ hy, e⟩
    · cases h
  | [], _, zs, h, z, hz => by simp [Jl] at h; subst h; simp at hz
  | _ :: _, [], zs, h, z, hz => by simp [Jl] at h; subst h; simp at hz
theorem Jl_len {f : PyData → PyData → Option PyData} : ∀ {xs ys zs : List PyData}, xs.length = ys.length → Jl f xs ys = some zs → zs.length = xs.length
  | [], [], zs, _, h => by simp [Jl] at h; subst h; rfl
  | x :: xs, y :: ys, zs, e, h => by
    rw [Jl] at h
    split at h
    · rename_i z1 zs1 h1 h2
      cases h
      rw [List.length_cons, List.length_cons, Jl_len (by simpa using e) h2]
    · cases h
  | [], _ :: _, _, e, _ => by simp at e
  | _ :: _, [], _, e, _ => by simp at e
theorem setrow : ("set" : Str) ≠ "row" := by decide +kernel
theorem J_st {n : Nat} {x y : PyData} : J (n + 1) (St x) (St y) = if PyData.eqv (St x) (St y) then some (St x) else if isNone x then some (St y) else if isNone y then some (St x) else (J n x y).map St := by
  conv => lhs; unfold J
  simp only [setrow, if_true, if_false]
theorem J_rw {n : Nat} {xs ys : List PyData} : J (n + 1) (Rw xs) (Rw ys) = if PyData.eqv (Rw xs) (Rw ys) then some (Rw xs) else if xs.length = ys.length then (Jl (J n) xs ys).map Rw else none := by
  conv => lhs; unfold J
  simp only [if_true]
theorem eqv_sr {x : PyData} {ys : List PyData} : PyData.eqv (St x) (Rw ys) = false := by
  have : (("set" : Str) == "row") = false := by decide +kernel
  simp only [PyData.eqv, PyData.eqvAll, this, Bool.false_and]
theorem eqv_rs {x : PyData} {ys : List PyData} : PyData.eqv (Rw ys) (St x) = false := by
  have : (("row" : Str) == "set") = false := by decide +kernel
  simp only [PyData.eqv, PyData.eqvAll, this, Bool.false_and]
theorem J_sr {n : Nat} {x : PyData} {ys : List PyData} : J (n + 1) (St x) (Rw ys) = none := by
  unfold J
  simp only [eqv_sr, setrow, if_false, Bool.false_eq_true]
theorem J_rs {n : Nat} {x : PyData} {ys : List PyData} : J (n + 1) (Rw ys) (St x) = none := by
  unfold J
  simp only [eqv_rs, setrow.symm, if_false, Bool.false_eq_true]
theorem J_strl {n : Nat} {x : Str} {b : PyData} : J (n + 1) (.str x) b = if PyData.eqv (.str x) b then some (.str x) else none := by
  unfold J
  simp only
theorem J_strr {n : Nat} {x : Str} {a : PyData} : J (n + 1) a (.str x) = if PyData.eqv a (.str x) then some a else none := by
  unfold J
  cases a <;> simp only
theorem J_kd : ∀ {n : Nat} {a b c : PyData}, Kd n a → Kd n b → J n a b = some c → Kd n c
  | 0, _, _, _, h, _, _ => h.elim
  | n + 1, a, b, c, ha, hb, h => by
    have same : PyData.eqv a b = true → Kd (n + 1) c := fun e => by
      unfold J at h
      rw [if_pos e] at h
      cases h; exact ha
    cases he : PyData.eqv a b with
    | true => exact same he
    | false =>
      have ka := ha
      have kb := hb
      rcases ha with ⟨x, rfl, hx⟩ | rfl | ⟨e, rfl, he'⟩ | ⟨es, rfl, e1, e2, e3⟩
      · rw [J_strl, he] at h; cases h
      · rcases hb with ⟨x, rfl, hx⟩ | rfl | ⟨e', rfl, hf⟩ | ⟨es', rfl, f1, f2, f3⟩
        · rw [J_strr, he] at h; cases h
        · rw [J_st, he] at h; cases h; exact kb
        · rw [J_st, he] at h; cases h; exact kb
        · rw [J_sr] at h; cases h
      · rcases hb with ⟨x, rfl, hx⟩ | rfl | ⟨e', rfl, hf⟩ | ⟨es', rfl, f1, f2, f3⟩
        · rw [J_strr, he] at h; cases h
        · rw [J_st, he, he'.notNone] at h; cases h; exact ka
        · rw [J_st, he, he'.notNone, hf.notNone] at h
          simp only [Bool.false_eq_true, if_false, Option.map_eq_some_iff] at h
          obtain ⟨z, hz, rfl⟩ := h
          exact .inr (.inr (.inl ⟨_, rfl, J_kd he' hf hz⟩))
        · rw [J_sr] at h; cases h
      · rcases hb with ⟨x, rfl, hx⟩ | rfl | ⟨e', rfl, hf⟩ | ⟨es', rfl, f1, f2, f3⟩
        · rw [J_strr, he] at h; cases h
        · rw [J_rs] at h; cases h
        · rw [J_rs] at h; cases h
        · rw [J_rw, he] at h
          simp only [Bool.false_eq_true, if_false] at h
          split at h
          · rename_i hl
            rw [Option.map_eq_some_iff] at h
            obtain ⟨zs, hz, rfl⟩ := h
            have len := Jl_len hl hz
            refine .inr (.inr (.inr ⟨zs, rfl, ?_, by omega, fun z hzm => ?_⟩))
            · intro e; rw [e] at len; cases es with
              | nil => exact e1 rfl
              | cons _ _ => simp at len
            · obtain ⟨x, hx, y, hy, e⟩ := Jl_mem hz z hzm
              exact J_kd (e3 x hx) (f3 y hy) e
          · cases h
end K06

set_option maxHeartbeats 4000000
/-! k06: the defs that join. -/
namespace K06
open PySem TA TM
def oD (o : Option PyData) : PyData := o.getD .none
theorem comp_map2 {i j : Nat} {e : Cm DV} {f : PyData → PyData → PyData} {ρ : TA.Env} {k : OD} : ∀ (xs ys : List PyData), (∀ x ∈ xs, ∀ y ∈ ys, ∃ v, e (((wipeE ρ [i, j]).set i (some (.d x))).set j (some (.d y))) k = some (v, k) ∧ v.dat = some (f x y)) → compL (.many [i, j]) e (.ret true) (pairsL xs ys) ρ k = some (List.zipWith f xs ys, k)
  | [], ys, _ => by simp [pairsL, compL]
  | _ :: _, [], _ => by simp [pairsL, compL]
  | x :: xs, y :: ys, h => by
    rw [pairsL, compL]
    simp only [setTg, setMany, Tg.slots]
    rw [show (Cm.ret true : Cm Bool) (((wipeE ρ [i, j]).set i (some (.d x))).set j (some (.d y))) k = some (true, k) from rfl]
    obtain ⟨v, h1, h2⟩ := h x List.mem_cons_self y List.mem_cons_self
    simp only [h1, h2, comp_map2 xs ys fun a ha b hb => h a (List.mem_cons_of_mem _ ha) b (List.mem_cons_of_mem _ hb), List.zipWith_cons_cons]
theorem pairs_le {xs ys : List PyData} (h : xs.length ≤ 4) : (pairsL xs ys).length ≤ sizeLine := by
  rw [pairs_len]
  have : (4 : Nat) ≤ sizeLine := by decide
  omega
theorem neLen {a b : Nat} : cmpD .NotEq (.int a) (.int b) = some (!decide (a = b)) := by
  simp [cmpD, SeqAt.shaped, PyData.canLay0, PyData.depth, PyData.eqv]
  by_cases h : a = b <;> simp [h] <;> omega
theorem zipT {st : Bool} {xs ys : List PyData} (h : xs.length = ys.length) : zipD st [.tuple xs, .tuple ys] = some (.d (.list (pairsL xs ys))) := by
  simp [zipD, h]
/-- what the items' joins tell -/
theorem zipJ {f : PyData → PyData → Option PyData} {m : Nat}  : ∀ xs ys : List PyData, (∀ x ∈ xs, ∀ y ∈ ys, ∀ c, f x y = some c → Nice m c ∧ isNone c = false) → xs.length = ys.length →
    ((List.zipWith (fun x y => oD (f x y)) xs ys).any fun z => PyData.eqv z .none) = (Jl f xs ys).isNone ∧ (∀ zs, Jl f xs ys = some zs → List.zipWith (fun x y => oD (f x y)) xs ys = zs) ∧ ∀ z ∈ List.zipWith (fun x y => oD (f x y)) xs ys, Nice m z
  | [], [], _, _ => by simp [Jl]
  | [], _ :: _, _, e => by simp at e
  | _ :: _, [], _, e => by simp at e
  | x :: xs, y :: ys, hf, e => by
    obtain ⟨h1, h2, h3⟩ := zipJ xs ys (fun a ha b hb => hf a (List.mem_cons_of_mem _ ha) b (List.mem_cons_of_mem _ hb)) (by simpa using e)
    cases hz : f x y with
    | none =>
      refine ⟨?_, fun zs h => ?_, fun z hm => ?_⟩
      · simp [hz, oD, Jl, PyData.eqv]
      · simp [Jl, hz] at h
      · simp only [List.zipWith_cons_cons, hz] at hm
        rcases List.mem_cons.mp hm with rfl | hm
        · exact nice_none m
        · exact h3 z hm
    | some c =>
      have hc := hf x List.mem_cons_self y List.mem_cons_self c hz
      have ne : PyData.eqv c .none = false := by
        cases c <;> simp [PyData.eqv, isNone] at hc ⊢
      refine ⟨?_, fun zs h => ?_, fun z hm => ?_⟩
      · simp only [List.zipWith_cons_cons, hz, oD, Option.getD_some, List.any_cons, ne, Bool.false_or]
        rw [show (List.any (List.zipWith (fun x y => (f x y).getD .none) xs ys) fun z => PyData.eqv z .none) = _ from h1]
        rw [Jl, hz]
        cases Jl f xs ys <;> rfl
      · rw [Jl, hz] at h
        cases hj : Jl f xs ys with
        | none => rw [hj] at h; cases h
        | some zs' =>
          rw [hj] at h
          cases h
          rw [List.zipWith_cons_cons, h2 zs' hj, hz]
          rfl
      · simp only [List.zipWith_cons_cons, hz] at hm
        rcases List.mem_cons.mp hm with rfl | hm
        · exact hc.1
        · exact h3 z hm
theorem inNone {m : Nat} {zs : List PyData} (h : ∀ z ∈ zs, Nice m z) (l : m + 1 ≤ 64) : cmpD .In .none (.list zs) = some (zs.any fun z => PyData.eqv z .none) := by
  have e1 : SeqAt.shaped .none = true := rfl
  have e2 : SeqAt.shaped (.list zs) = true := by
    have a := lays_iff fun x hx => (h x hx).l
    have b := deps_le fun x hx => (h x hx).p
    have e : PyData.depth (.list zs) ≤ 64 := by rw [PyData.depth]; omega
    simp only [SeqAt.shaped, PyData.canLay0, a, Bool.true_and, decide_eq_true_eq, e]
  simp only [cmpD, e1, e2, Bool.and_self, if_true]
theorem isN_n : isNone .none = true := rfl
theorem tupB_l {xs : List PyData} : tupleB (.list xs) = some (.d (.tuple xs)) := rfl
theorem i0 {w i : PyData} : idxV (.tuple [w, i]) (.int 0) = some (.d w) := rfl
theorem i1 {w i : PyData} : idxV (.tuple [w, i]) (.int 1) = some (.d i) := rfl
theorem rows_ok (n m : Nat) (hm : m ≤ 20) (k : OD) (ih : ∀ a b, Kd m a → Kd m b → callD Pg n 2 [.d a, .d b] k = some (.d (oD (J m a b)), k)) (xs ys : List PyData) (hx : ∀ x ∈ xs, Kd m x) (hy : ∀ y ∈ ys, Kd m y) (l1 : xs.length ≤ 4) (l2 : ys.length ≤ 4) :
    callD Pg (n + 1) 3 [.d (.tuple xs), .d (.tuple ys)] k = some (.d (oD (if xs.length = ys.length then (Jl (J m) xs ys).map Rw else none)), k) := by
  show endOf (evSs (CX n) b3 [some (.d (.tuple xs)), some (.d (.tuple ys)), none, none, none] k) = _
  unfold b3
  simp only [bO_some, bO_none, lO_some, lO_none, iB_t, iB_f, thn_nx, thn_rt, thn_bk, thn_ct, endOf_rt, endOf_nx, kLift_a, kOk_a, kO2_a, kIte_t, kIte_f, kIfe_t, kIfe_f, kCall_a, kArgs_a, kArgs2_a, kVals_a, kVals2_a, kOpd_a, kOpd2_a, kDat_a, kDat2_a, kBV_a, kBV2_tt, kBV2_ff, kBV2_tf, kBV2_ft, kBT_tt, kBT_ff, kBT_tf, kBT_ft, kComp_a, kSrc_a, kChain_a, kChain2_a, kChain3_t, kChain3_f, kSet_a, kPar_a, kUnp_a, kFor_a, gV_d, gV_dk, gO_d, gO_o, var_v, var_o, var_t, oV_d, oV_own, tV_d, tV_own, vB_s, oB_s, non_v, non_o, bl_v, bl_o, bl_t, int_v, int_o, str_v, str_o, glb_v, glb_o, tup_v, tup_o, lst_v, lst_o, bin_v, bin_o, bin_t, cmp_t, cmp_v, cmp_o, isN_t, isN_v, isi_t, isi_v, not_t, bop_v, bop_o, bop_t, ife_v, ife_o, idx_v, idx_o, slA_v, slA_o, slB_v, slB_o, call_v, call_o, call_t, callk_v, blt_v, blt_o, comp_v, comp_o, compIf_v, compIf_o, dict0_v, dict1_v, src_eq, rng1_v, zip_v, chain_t, as_nl, as_cs, ds_nl, ds_cs, os_nl, os_cs, vs_nl, vs_cs, es_nl, es_cs, bv_1, bv_2, bt_1, bt_2, s_nil, s_cons, s_set, s_setLc, s_par, s_unp, s_ite, s_loop, s_frz, s_app, rt_non, rt_bl, rt_int, rt_str, rt_glb, rt_tup, rt_lst, rt_bin, rt_cmp, rt_chain, rt_isN, rt_not, rt_bop, rt_ife, rt_idx, rt_slA, rt_slB, rt_call, rt_callk, rt_blt, rt_comp, rt_compIf, rt_isi, gR_s, rt_var, DV.dat, DV.fz, List.getElem?_cons_zero, List.getElem?_cons_succ, List.set_cons_zero, List.set_cons_succ, Option.map_some, Option.map_none, Option.bind_some, Option.bind_none, List.any_cons, List.any_nil, Bool.or_false, Bool.false_or, Bool.or_true, Bool.true_or, Bool.not_true, Bool.not_false, isTy, bltD, blt1, blt2, truthD, intD, setAll, setMany, lenB, lenD, neLen]
  by_cases hl : xs.length = ys.length
  · have cm := comp_map2 (i := 3) (j := 4) (e := (evA (CX n) b3_0).v) (f := fun x y => oD (J m x y)) (ρ := [some (.d (.tuple xs)), some (.d (.tuple ys)), none, none, none]) (k := k) xs ys fun x hx' y hy' => by
      refine ⟨.d (oD (J m x y)), ?_, rfl⟩
      have := ih x y (hx x hx') (hy y hy')
      simp only [b3_0, bO_some, bO_none, lO_some, lO_none, iB_t, iB_f, thn_nx, thn_rt, thn_bk, thn_ct, endOf_rt, endOf_nx, kLift_a, kOk_a, kO2_a, kIte_t, kIte_f, kIfe_t, kIfe_f, kCall_a, kArgs_a, kArgs2_a, kVals_a, kVals2_a, kOpd_a, kOpd2_a, kDat_a, kDat2_a, kBV_a, kBV2_tt, kBV2_ff, kBV2_tf, kBV2_ft, kBT_tt, kBT_ff, kBT_tf, kBT_ft, kComp_a, kSrc_a, kChain_a, kChain2_a, kChain3_t, kChain3_f, kSet_a, kPar_a, kUnp_a, kFor_a, gV_d, gV_dk, gO_d, gO_o, var_v, var_o, var_t, oV_d, oV_own, tV_d, tV_own, vB_s, oB_s, non_v, non_o, bl_v, bl_o, bl_t, int_v, int_o, str_v, str_o, glb_v, glb_o, tup_v, tup_o, lst_v, lst_o, bin_v, bin_o, bin_t, cmp_t, cmp_v, cmp_o, isN_t, isN_v, isi_t, isi_v, not_t, bop_v, bop_o, bop_t, ife_v, ife_o, idx_v, idx_o, slA_v, slA_o, slB_v, slB_o, call_v, call_o, call_t, callk_v, blt_v, blt_o, comp_v, comp_o, compIf_v, compIf_o, dict0_v, dict1_v, src_eq, rng1_v, zip_v, chain_t, as_nl, as_cs, ds_nl, ds_cs, os_nl, os_cs, vs_nl, vs_cs, es_nl, es_cs, bv_1, bv_2, bt_1, bt_2, s_nil, s_cons, s_set, s_setLc, s_par, s_unp, s_ite, s_loop, s_frz, s_app, rt_non, rt_bl, rt_int, rt_str, rt_glb, rt_tup, rt_lst, rt_bin, rt_cmp, rt_chain, rt_isN, rt_not, rt_bop, rt_ife, rt_idx, rt_slA, rt_slB, rt_call, rt_callk, rt_blt, rt_comp, rt_compIf, rt_isi, gR_s, rt_var, DV.dat, DV.fz, List.getElem?_cons_zero, List.getElem?_cons_succ, List.set_cons_zero, List.set_cons_succ, Option.map_some, Option.map_none, Option.bind_some, Option.bind_none, List.any_cons, List.any_nil, Bool.or_false, Bool.false_or, Bool.or_true, Bool.true_or, Bool.not_true, Bool.not_false, isTy, bltD, blt1, blt2, truthD, intD, setAll, setMany, wipeE, this]
    obtain ⟨z1, z2, z3⟩ := zipJ (f := J m) (m := 2 * m) xs ys (fun x hx' y hy' c h => ⟨(J_kd (hx x hx') (hy y hy') h).nice, (J_kd (hx x hx') (hy y hy') h).notNone⟩) hl
    simp only [bO_some, bO_none, lO_some, lO_none, iB_t, iB_f, thn_nx, thn_rt, thn_bk, thn_ct, endOf_rt, endOf_nx, kLift_a, kOk_a, kO2_a, kIte_t, kIte_f, kIfe_t, kIfe_f, kCall_a, kArgs_a, kArgs2_a, kVals_a, kVals2_a, kOpd_a, kOpd2_a, kDat_a, kDat2_a, kBV_a, kBV2_tt, kBV2_ff, kBV2_tf, kBV2_ft, kBT_tt, kBT_ff, kBT_tf, kBT_ft, kComp_a, kSrc_a, kChain_a, kChain2_a, kChain3_t, kChain3_f, kSet_a, kPar_a, kUnp_a, kFor_a, gV_d, gV_dk, gO_d, gO_o, var_v, var_o, var_t, oV_d, oV_own, tV_d, tV_own, vB_s, oB_s, non_v, non_o, bl_v, bl_o, bl_t, int_v, int_o, str_v, str_o, glb_v, glb_o, tup_v, tup_o, lst_v, lst_o, bin_v, bin_o, bin_t, cmp_t, cmp_v, cmp_o, isN_t, isN_v, isi_t, isi_v, not_t, bop_v, bop_o, bop_t, ife_v, ife_o, idx_v, idx_o, slA_v, slA_o, slB_v, slB_o, call_v, call_o, call_t, callk_v, blt_v, blt_o, comp_v, comp_o, compIf_v, compIf_o, dict0_v, dict1_v, src_eq, rng1_v, zip_v, chain_t, as_nl, as_cs, ds_nl, ds_cs, os_nl, os_cs, vs_nl, vs_cs, es_nl, es_cs, bv_1, bv_2, bt_1, bt_2, s_nil, s_cons, s_set, s_setLc, s_par, s_unp, s_ite, s_loop, s_frz, s_app, rt_non, rt_bl, rt_int, rt_str, rt_glb, rt_tup, rt_lst, rt_bin, rt_cmp, rt_chain, rt_isN, rt_not, rt_bop, rt_ife, rt_idx, rt_slA, rt_slB, rt_call, rt_callk, rt_blt, rt_comp, rt_compIf, rt_isi, gR_s, rt_var, DV.dat, DV.fz, List.getElem?_cons_zero, List.getElem?_cons_succ, List.set_cons_zero, List.set_cons_succ, Option.map_some, Option.map_none, Option.bind_some, Option.bind_none, List.any_cons, List.any_nil, Bool.or_false, Bool.false_or, Bool.or_true, Bool.true_or, Bool.not_true, Bool.not_false, isTy, bltD, blt1, blt2, truthD, intD, setAll, setMany, hl, decide_true, zipT hl, itemsD, srcL_ok (pairs_le l1), cm, inNone z3 (by omega), z1, if_true]
    cases hj : Jl (J m) xs ys with
    | none =>
      simp only [bO_some, bO_none, lO_some, lO_none, iB_t, iB_f, thn_nx, thn_rt, thn_bk, thn_ct, endOf_rt, endOf_nx, kLift_a, kOk_a, kO2_a, kIte_t, kIte_f, kIfe_t, kIfe_f, kCall_a, kArgs_a, kArgs2_a, kVals_a, kVals2_a, kOpd_a, kOpd2_a, kDat_a, kDat2_a, kBV_a, kBV2_tt, kBV2_ff, kBV2_tf, kBV2_ft, kBT_tt, kBT_ff, kBT_tf, kBT_ft, kComp_a, kSrc_a, kChain_a, kChain2_a, kChain3_t, kChain3_f, kSet_a, kPar_a, kUnp_a, kFor_a, gV_d, gV_dk, gO_d, gO_o, var_v, var_o, var_t, oV_d, oV_own, tV_d, tV_own, vB_s, oB_s, non_v, non_o, bl_v, bl_o, bl_t, int_v, int_o, str_v, str_o, glb_v, glb_o, tup_v, tup_o, lst_v, lst_o, bin_v, bin_o, bin_t, cmp_t, cmp_v, cmp_o, isN_t, isN_v, isi_t, isi_v, not_t, bop_v, bop_o, bop_t, ife_v, ife_o, idx_v, idx_o, slA_v, slA_o, slB_v, slB_o, call_v, call_o, call_t, callk_v, blt_v, blt_o, comp_v, comp_o, compIf_v, compIf_o, dict0_v, dict1_v, src_eq, rng1_v, zip_v, chain_t, as_nl, as_cs, ds_nl, ds_cs, os_nl, os_cs, vs_nl, vs_cs, es_nl, es_cs, bv_1, bv_2, bt_1, bt_2, s_nil, s_cons, s_set, s_setLc, s_par, s_unp, s_ite, s_loop, s_frz, s_app, rt_non, rt_bl, rt_int, rt_str, rt_glb, rt_tup, rt_lst, rt_bin, rt_cmp, rt_chain, rt_isN, rt_not, rt_bop, rt_ife, rt_idx, rt_slA, rt_slB, rt_call, rt_callk, rt_blt, rt_comp, rt_compIf, rt_isi, gR_s, rt_var, DV.dat, DV.fz, List.getElem?_cons_zero, List.getElem?_cons_succ, List.set_cons_zero, List.set_cons_succ, Option.map_some, Option.map_none, Option.bind_some, Option.bind_none, List.any_cons, List.any_nil, Bool.or_false, Bool.false_or, Bool.or_true, Bool.true_or, Bool.not_true, Bool.not_false, isTy, bltD, blt1, blt2, truthD, intD, setAll, setMany, Option.isNone_none, Option.map_none, oD, Option.getD_none]
    | some zs =>
      simp only [bO_some, bO_none, lO_some, lO_none, iB_t, iB_f, thn_nx, thn_rt, thn_bk, thn_ct, endOf_rt, endOf_nx, kLift_a, kOk_a, kO2_a, kIte_t, kIte_f, kIfe_t, kIfe_f, kCall_a, kArgs_a, kArgs2_a, kVals_a, kVals2_a, kOpd_a, kOpd2_a, kDat_a, kDat2_a, kBV_a, kBV2_tt, kBV2_ff, kBV2_tf, kBV2_ft, kBT_tt, kBT_ff, kBT_tf, kBT_ft, kComp_a, kSrc_a, kChain_a, kChain2_a, kChain3_t, kChain3_f, kSet_a, kPar_a, kUnp_a, kFor_a, gV_d, gV_dk, gO_d, gO_o, var_v, var_o, var_t, oV_d, oV_own, tV_d, tV_own, vB_s, oB_s, non_v, non_o, bl_v, bl_o, bl_t, int_v, int_o, str_v, str_o, glb_v, glb_o, tup_v, tup_o, lst_v, lst_o, bin_v, bin_o, bin_t, cmp_t, cmp_v, cmp_o, isN_t, isN_v, isi_t, isi_v, not_t, bop_v, bop_o, bop_t, ife_v, ife_o, idx_v, idx_o, slA_v, slA_o, slB_v, slB_o, call_v, call_o, call_t, callk_v, blt_v, blt_o, comp_v, comp_o, compIf_v, compIf_o, dict0_v, dict1_v, src_eq, rng1_v, zip_v, chain_t, as_nl, as_cs, ds_nl, ds_cs, os_nl, os_cs, vs_nl, vs_cs, es_nl, es_cs, bv_1, bv_2, bt_1, bt_2, s_nil, s_cons, s_set, s_setLc, s_par, s_unp, s_ite, s_loop, s_frz, s_app, rt_non, rt_bl, rt_int, rt_str, rt_glb, rt_tup, rt_lst, rt_bin, rt_cmp, rt_chain, rt_isN, rt_not, rt_bop, rt_ife, rt_idx, rt_slA, rt_slB, rt_call, rt_callk, rt_blt, rt_comp, rt_compIf, rt_isi, gR_s, rt_var, DV.dat, DV.fz, List.getElem?_cons_zero, List.getElem?_cons_succ, List.set_cons_zero, List.set_cons_succ, Option.map_some, Option.map_none, Option.bind_some, Option.bind_none, List.any_cons, List.any_nil, Bool.or_false, Bool.false_or, Bool.or_true, Bool.true_or, Bool.not_true, Bool.not_false, isTy, bltD, blt1, blt2, truthD, intD, setAll, setMany, Option.isNone_some, Option.map_some, oD, Option.getD_some, gl2, tupB_l]
      have := z2 zs hj
      simp only [oD] at this
      rw [this]
  · simp only [bO_some, bO_none, lO_some, lO_none, iB_t, iB_f, thn_nx, thn_rt, thn_bk, thn_ct, endOf_rt, endOf_nx, kLift_a, kOk_a, kO2_a, kIte_t, kIte_f, kIfe_t, kIfe_f, kCall_a, kArgs_a, kArgs2_a, kVals_a, kVals2_a, kOpd_a, kOpd2_a, kDat_a, kDat2_a, kBV_a, kBV2_tt, kBV2_ff, kBV2_tf, kBV2_ft, kBT_tt, kBT_ff, kBT_tf, kBT_ft, kComp_a, kSrc_a, kChain_a, kChain2_a, kChain3_t, kChain3_f, kSet_a, kPar_a, kUnp_a, kFor_a, gV_d, gV_dk, gO_d, gO_o, var_v, var_o, var_t, oV_d, oV_own, tV_d, tV_own, vB_s, oB_s, non_v, non_o, bl_v, bl_o, bl_t, int_v, int_o, str_v, str_o, glb_v, glb_o, tup_v, tup_o, lst_v, lst_o, bin_v, bin_o, bin_t, cmp_t, cmp_v, cmp_o, isN_t, isN_v, isi_t, isi_v, not_t, bop_v, bop_o, bop_t, ife_v, ife_o, idx_v, idx_o, slA_v, slA_o, slB_v, slB_o, call_v, call_o, call_t, callk_v, blt_v, blt_o, comp_v, comp_o, compIf_v, compIf_o, dict0_v, dict1_v, src_eq, rng1_v, zip_v, chain_t, as_nl, as_cs, ds_nl, ds_cs, os_nl, os_cs, vs_nl, vs_cs, es_nl, es_cs, bv_1, bv_2, bt_1, bt_2, s_nil, s_cons, s_set, s_setLc, s_par, s_unp, s_ite, s_loop, s_frz, s_app, rt_non, rt_bl, rt_int, rt_str, rt_glb, rt_tup, rt_lst, rt_bin, rt_cmp, rt_chain, rt_isN, rt_not, rt_bop, rt_ife, rt_idx, rt_slA, rt_slB, rt_call, rt_callk, rt_blt, rt_comp, rt_compIf, rt_isi, gR_s, rt_var, DV.dat, DV.fz, List.getElem?_cons_zero, List.getElem?_cons_succ, List.set_cons_zero, List.set_cons_succ, Option.map_some, Option.map_none, Option.bind_some, Option.bind_none, List.any_cons, List.any_nil, Bool.or_false, Bool.false_or, Bool.or_true, Bool.true_or, Bool.not_true, Bool.not_false, isTy, bltD, blt1, blt2, truthD, intD, setAll, setMany, hl, decide_false, if_false]
    rfl
theorem eqv_refl {n : Nat} {a : PyData} (h : Kd n a) : PyData.eqv a a = true := (eqv_iff a a h.nice.c h.nice.c).mpr rfl
theorem join_ok : ∀ (m n : Nat) (a b : PyData) (k : OD), m ≤ 20 → 2 * m ≤ n → Kd m a → Kd m b → callD Pg n 2 [.d a, .d b] k = some (.d (oD (J m a b)), k)
  | 0, _, _, _, _, _, _, h, _ => h.elim
  | m + 1, 0, _, _, _, _, h, _, _ => by omega
  | m + 1, 1, _, _, _, _, h, _, _ => by omega
  | m + 1, n + 2, a, b, k, hm, hn, ha, hb => by
    have ih : ∀ N, 2 * m ≤ N → ∀ a b, Kd m a → Kd m b → callD Pg N 2 [.d a, .d b] k = some (.d (oD (J m a b)), k) := fun N hN a b ha hb => join_ok m N a b k (by omega) hN ha hb
    show endOf (evSs (CX (n + 1)) b2 [some (.d a), some (.d b), none] k) = _
    unfold b2
    simp only [bO_some, bO_none, lO_some, lO_none, iB_t, iB_f, thn_nx, thn_rt, thn_bk, thn_ct, endOf_rt, endOf_nx, kLift_a, kOk_a, kO2_a, kIte_t, kIte_f, kIfe_t, kIfe_f, kCall_a, kArgs_a, kArgs2_a, kVals_a, kVals2_a, kOpd_a, kOpd2_a, kDat_a, kDat2_a, kBV_a, kBV2_tt, kBV2_ff, kBV2_tf, kBV2_ft, kBT_tt, kBT_ff, kBT_tf, kBT_ft, kComp_a, kSrc_a, kChain_a, kChain2_a, kChain3_t, kChain3_f, kSet_a, kPar_a, kUnp_a, kFor_a, gV_d, gV_dk, gO_d, gO_o, var_v, var_o, var_t, oV_d, oV_own, tV_d, tV_own, vB_s, oB_s, non_v, non_o, bl_v, bl_o, bl_t, int_v, int_o, str_v, str_o, glb_v, glb_o, tup_v, tup_o, lst_v, lst_o, bin_v, bin_o, bin_t, cmp_t, cmp_v, cmp_o, isN_t, isN_v, isi_t, isi_v, not_t, bop_v, bop_o, bop_t, ife_v, ife_o, idx_v, idx_o, slA_v, slA_o, slB_v, slB_o, call_v, call_o, call_t, callk_v, blt_v, blt_o, comp_v, comp_o, compIf_v, compIf_o, dict0_v, dict1_v, src_eq, rng1_v, zip_v, chain_t, as_nl, as_cs, ds_nl, ds_cs, os_nl, os_cs, vs_nl, vs_cs, es_nl, es_cs, bv_1, bv_2, bt_1, bt_2, s_nil, s_cons, s_set, s_setLc, s_par, s_unp, s_ite, s_loop, s_frz, s_app, rt_non, rt_bl, rt_int, rt_str, rt_glb, rt_tup, rt_lst, rt_bin, rt_cmp, rt_chain, rt_isN, rt_not, rt_bop, rt_ife, rt_idx, rt_slA, rt_slB, rt_call, rt_callk, rt_blt, rt_comp, rt_compIf, rt_isi, gR_s, rt_var, DV.dat, DV.fz, List.getElem?_cons_zero, List.getElem?_cons_succ, List.set_cons_zero, List.set_cons_succ, Option.map_some, Option.map_none, Option.bind_some, Option.bind_none, List.any_cons, List.any_nil, Bool.or_false, Bool.false_or, Bool.or_true, Bool.true_or, Bool.not_true, Bool.not_false, isTy, bltD, blt1, blt2, truthD, intD, setAll, setMany, eqD ha.nice hb.nice (by omega)]
    cases he : PyData.eqv a b with
    | true =>
      have : J (m + 1) a b = some a := by unfold J; rw [if_pos he]
      simp only [bO_some, bO_none, lO_some, lO_none, iB_t, iB_f, thn_nx, thn_rt, thn_bk, thn_ct, endOf_rt, endOf_nx, kLift_a, kOk_a, kO2_a, kIte_t, kIte_f, kIfe_t, kIfe_f, kCall_a, kArgs_a, kArgs2_a, kVals_a, kVals2_a, kOpd_a, kOpd2_a, kDat_a, kDat2_a, kBV_a, kBV2_tt, kBV2_ff, kBV2_tf, kBV2_ft, kBT_tt, kBT_ff, kBT_tf, kBT_ft, kComp_a, kSrc_a, kChain_a, kChain2_a, kChain3_t, kChain3_f, kSet_a, kPar_a, kUnp_a, kFor_a, gV_d, gV_dk, gO_d, gO_o, var_v, var_o, var_t, oV_d, oV_own, tV_d, tV_own, vB_s, oB_s, non_v, non_o, bl_v, bl_o, bl_t, int_v, int_o, str_v, str_o, glb_v, glb_o, tup_v, tup_o, lst_v, lst_o, bin_v, bin_o, bin_t, cmp_t, cmp_v, cmp_o, isN_t, isN_v, isi_t, isi_v, not_t, bop_v, bop_o, bop_t, ife_v, ife_o, idx_v, idx_o, slA_v, slA_o, slB_v, slB_o, call_v, call_o, call_t, callk_v, blt_v, blt_o, comp_v, comp_o, compIf_v, compIf_o, dict0_v, dict1_v, src_eq, rng1_v, zip_v, chain_t, as_nl, as_cs, ds_nl, ds_cs, os_nl, os_cs, vs_nl, vs_cs, es_nl, es_cs, bv_1, bv_2, bt_1, bt_2, s_nil, s_cons, s_set, s_setLc, s_par, s_unp, s_ite, s_loop, s_frz, s_app, rt_non, rt_bl, rt_int, rt_str, rt_glb, rt_tup, rt_lst, rt_bin, rt_cmp, rt_chain, rt_isN, rt_not, rt_bop, rt_ife, rt_idx, rt_slA, rt_slB, rt_call, rt_callk, rt_blt, rt_comp, rt_compIf, rt_isi, gR_s, rt_var, DV.dat, DV.fz, List.getElem?_cons_zero, List.getElem?_cons_succ, List.set_cons_zero, List.set_cons_succ, Option.map_some, Option.map_none, Option.bind_some, Option.bind_none, List.any_cons, List.any_nil, Bool.or_false, Bool.false_or, Bool.or_true, Bool.true_or, Bool.not_true, Bool.not_false, isTy, bltD, blt1, blt2, truthD, intD, setAll, setMany, this, oD, Option.getD_some]
    | false =>
      rcases ha with ⟨x, rfl, hx⟩ | rfl | ⟨e, rfl, he'⟩ | ⟨es, rfl, e1, e2, e3⟩
      · rw [J_strl, he]; simp only [bO_some, bO_none, lO_some, lO_none, iB_t, iB_f, thn_nx, thn_rt, thn_bk, thn_ct, endOf_rt, endOf_nx, kLift_a, kOk_a, kO2_a, kIte_t, kIte_f, kIfe_t, kIfe_f, kCall_a, kArgs_a, kArgs2_a, kVals_a, kVals2_a, kOpd_a, kOpd2_a, kDat_a, kDat2_a, kBV_a, kBV2_tt, kBV2_ff, kBV2_tf, kBV2_ft, kBT_tt, kBT_ff, kBT_tf, kBT_ft, kComp_a, kSrc_a, kChain_a, kChain2_a, kChain3_t, kChain3_f, kSet_a, kPar_a, kUnp_a, kFor_a, gV_d, gV_dk, gO_d, gO_o, var_v, var_o, var_t, oV_d, oV_own, tV_d, tV_own, vB_s, oB_s, non_v, non_o, bl_v, bl_o, bl_t, int_v, int_o, str_v, str_o, glb_v, glb_o, tup_v, tup_o, lst_v, lst_o, bin_v, bin_o, bin_t, cmp_t, cmp_v, cmp_o, isN_t, isN_v, isi_t, isi_v, not_t, bop_v, bop_o, bop_t, ife_v, ife_o, idx_v, idx_o, slA_v, slA_o, slB_v, slB_o, call_v, call_o, call_t, callk_v, blt_v, blt_o, comp_v, comp_o, compIf_v, compIf_o, dict0_v, dict1_v, src_eq, rng1_v, zip_v, chain_t, as_nl, as_cs, ds_nl, ds_cs, os_nl, os_cs, vs_nl, vs_cs, es_nl, es_cs, bv_1, bv_2, bt_1, bt_2, s_nil, s_cons, s_set, s_setLc, s_par, s_unp, s_ite, s_loop, s_frz, s_app, rt_non, rt_bl, rt_int, rt_str, rt_glb, rt_tup, rt_lst, rt_bin, rt_cmp, rt_chain, rt_isN, rt_not, rt_bop, rt_ife, rt_idx, rt_slA, rt_slB, rt_call, rt_callk, rt_blt, rt_comp, rt_compIf, rt_isi, gR_s, rt_var, DV.dat, DV.fz, List.getElem?_cons_zero, List.getElem?_cons_succ, List.set_cons_zero, List.set_cons_succ, Option.map_some, Option.map_none, Option.bind_some, Option.bind_none, List.any_cons, List.any_nil, Bool.or_false, Bool.false_or, Bool.or_true, Bool.true_or, Bool.not_true, Bool.not_false, isTy, bltD, blt1, blt2, truthD, intD, setAll, setMany]; rfl
      · rcases hb with ⟨x, rfl, hx⟩ | rfl | ⟨e', rfl, hf⟩ | ⟨es', rfl, f1, f2, f3⟩
        · rw [J_strr, he]; simp only [bO_some, bO_none, lO_some, lO_none, iB_t, iB_f, thn_nx, thn_rt, thn_bk, thn_ct, endOf_rt, endOf_nx, kLift_a, kOk_a, kO2_a, kIte_t, kIte_f, kIfe_t, kIfe_f, kCall_a, kArgs_a, kArgs2_a, kVals_a, kVals2_a, kOpd_a, kOpd2_a, kDat_a, kDat2_a, kBV_a, kBV2_tt, kBV2_ff, kBV2_tf, kBV2_ft, kBT_tt, kBT_ff, kBT_tf, kBT_ft, kComp_a, kSrc_a, kChain_a, kChain2_a, kChain3_t, kChain3_f, kSet_a, kPar_a, kUnp_a, kFor_a, gV_d, gV_dk, gO_d, gO_o, var_v, var_o, var_t, oV_d, oV_own, tV_d, tV_own, vB_s, oB_s, non_v, non_o, bl_v, bl_o, bl_t, int_v, int_o, str_v, str_o, glb_v, glb_o, tup_v, tup_o, lst_v, lst_o, bin_v, bin_o, bin_t, cmp_t, cmp_v, cmp_o, isN_t, isN_v, isi_t, isi_v, not_t, bop_v, bop_o, bop_t, ife_v, ife_o, idx_v, idx_o, slA_v, slA_o, slB_v, slB_o, call_v, call_o, call_t, callk_v, blt_v, blt_o, comp_v, comp_o, compIf_v, compIf_o, dict0_v, dict1_v, src_eq, rng1_v, zip_v, chain_t, as_nl, as_cs, ds_nl, ds_cs, os_nl, os_cs, vs_nl, vs_cs, es_nl, es_cs, bv_1, bv_2, bt_1, bt_2, s_nil, s_cons, s_set, s_setLc, s_par, s_unp, s_ite, s_loop, s_frz, s_app, rt_non, rt_bl, rt_int, rt_str, rt_glb, rt_tup, rt_lst, rt_bin, rt_cmp, rt_chain, rt_isN, rt_not, rt_bop, rt_ife, rt_idx, rt_slA, rt_slB, rt_call, rt_callk, rt_blt, rt_comp, rt_compIf, rt_isi, gR_s, rt_var, DV.dat, DV.fz, List.getElem?_cons_zero, List.getElem?_cons_succ, List.set_cons_zero, List.set_cons_succ, Option.map_some, Option.map_none, Option.bind_some, Option.bind_none, List.any_cons, List.any_nil, Bool.or_false, Bool.false_or, Bool.or_true, Bool.true_or, Bool.not_true, Bool.not_false, isTy, bltD, blt1, blt2, truthD, intD, setAll, setMany]; rfl
        · cases he
        · rw [J_st, he]
          simp only [bO_some, bO_none, lO_some, lO_none, iB_t, iB_f, thn_nx, thn_rt, thn_bk, thn_ct, endOf_rt, endOf_nx, kLift_a, kOk_a, kO2_a, kIte_t, kIte_f, kIfe_t, kIfe_f, kCall_a, kArgs_a, kArgs2_a, kVals_a, kVals2_a, kOpd_a, kOpd2_a, kDat_a, kDat2_a, kBV_a, kBV2_tt, kBV2_ff, kBV2_tf, kBV2_ft, kBT_tt, kBT_ff, kBT_tf, kBT_ft, kComp_a, kSrc_a, kChain_a, kChain2_a, kChain3_t, kChain3_f, kSet_a, kPar_a, kUnp_a, kFor_a, gV_d, gV_dk, gO_d, gO_o, var_v, var_o, var_t, oV_d, oV_own, tV_d, tV_own, vB_s, oB_s, non_v, non_o, bl_v, bl_o, bl_t, int_v, int_o, str_v, str_o, glb_v, glb_o, tup_v, tup_o, lst_v, lst_o, bin_v, bin_o, bin_t, cmp_t, cmp_v, cmp_o, isN_t, isN_v, isi_t, isi_v, not_t, bop_v, bop_o, bop_t, ife_v, ife_o, idx_v, idx_o, slA_v, slA_o, slB_v, slB_o, call_v, call_o, call_t, callk_v, blt_v, blt_o, comp_v, comp_o, compIf_v, compIf_o, dict0_v, dict1_v, src_eq, rng1_v, zip_v, chain_t, as_nl, as_cs, ds_nl, ds_cs, os_nl, os_cs, vs_nl, vs_cs, es_nl, es_cs, bv_1, bv_2, bt_1, bt_2, s_nil, s_cons, s_set, s_setLc, s_par, s_unp, s_ite, s_loop, s_frz, s_app, rt_non, rt_bl, rt_int, rt_str, rt_glb, rt_tup, rt_lst, rt_bin, rt_cmp, rt_chain, rt_isN, rt_not, rt_bop, rt_ife, rt_idx, rt_slA, rt_slB, rt_call, rt_callk, rt_blt, rt_comp, rt_compIf, rt_isi, gR_s, rt_var, DV.dat, DV.fz, List.getElem?_cons_zero, List.getElem?_cons_succ, List.set_cons_zero, List.set_cons_succ, Option.map_some, Option.map_none, Option.bind_some, Option.bind_none, List.any_cons, List.any_nil, Bool.or_false, Bool.false_or, Bool.or_true, Bool.true_or, Bool.not_true, Bool.not_false, isTy, bltD, blt1, blt2, truthD, intD, setAll, setMany, i0, i1, neS, eqS, gl2, beq_self_eq_true, beq_eq_false_iff_ne.mpr setrow, isN_n]
          rfl
        · rw [J_sr]
          simp only [bO_some, bO_none, lO_some, lO_none, iB_t, iB_f, thn_nx, thn_rt, thn_bk, thn_ct, endOf_rt, endOf_nx, kLift_a, kOk_a, kO2_a, kIte_t, kIte_f, kIfe_t, kIfe_f, kCall_a, kArgs_a, kArgs2_a, kVals_a, kVals2_a, kOpd_a, kOpd2_a, kDat_a, kDat2_a, kBV_a, kBV2_tt, kBV2_ff, kBV2_tf, kBV2_ft, kBT_tt, kBT_ff, kBT_tf, kBT_ft, kComp_a, kSrc_a, kChain_a, kChain2_a, kChain3_t, kChain3_f, kSet_a, kPar_a, kUnp_a, kFor_a, gV_d, gV_dk, gO_d, gO_o, var_v, var_o, var_t, oV_d, oV_own, tV_d, tV_own, vB_s, oB_s, non_v, non_o, bl_v, bl_o, bl_t, int_v, int_o, str_v, str_o, glb_v, glb_o, tup_v, tup_o, lst_v, lst_o, bin_v, bin_o, bin_t, cmp_t, cmp_v, cmp_o, isN_t, isN_v, isi_t, isi_v, not_t, bop_v, bop_o, bop_t, ife_v, ife_o, idx_v, idx_o, slA_v, slA_o, slB_v, slB_o, call_v, call_o, call_t, callk_v, blt_v, blt_o, comp_v, comp_o, compIf_v, compIf_o, dict0_v, dict1_v, src_eq, rng1_v, zip_v, chain_t, as_nl, as_cs, ds_nl, ds_cs, os_nl, os_cs, vs_nl, vs_cs, es_nl, es_cs, bv_1, bv_2, bt_1, bt_2, s_nil, s_cons, s_set, s_setLc, s_par, s_unp, s_ite, s_loop, s_frz, s_app, rt_non, rt_bl, rt_int, rt_str, rt_glb, rt_tup, rt_lst, rt_bin, rt_cmp, rt_chain, rt_isN, rt_not, rt_bop, rt_ife, rt_idx, rt_slA, rt_slB, rt_call, rt_callk, rt_blt, rt_comp, rt_compIf, rt_isi, gR_s, rt_var, DV.dat, DV.fz, List.getElem?_cons_zero, List.getElem?_cons_succ, List.set_cons_zero, List.set_cons_succ, Option.map_some, Option.map_none, Option.bind_some, Option.bind_none, List.any_cons, List.any_nil, Bool.or_false, Bool.false_or, Bool.or_true, Bool.true_or, Bool.not_true, Bool.not_false, isTy, bltD, blt1, blt2, truthD, intD, setAll, setMany, i0, i1, neS, eqS, gl2, beq_eq_false_iff_ne.mpr setrow]
          rfl
      · rcases hb with ⟨x, rfl, hx⟩ | rfl | ⟨e', rfl, hf⟩ | ⟨es', rfl, f1, f2, f3⟩
        · rw [J_strr, he]; simp only [bO_some, bO_none, lO_some, lO_none, iB_t, iB_f, thn_nx, thn_rt, thn_bk, thn_ct, endOf_rt, endOf_nx, kLift_a, kOk_a, kO2_a, kIte_t, kIte_f, kIfe_t, kIfe_f, kCall_a, kArgs_a, kArgs2_a, kVals_a, kVals2_a, kOpd_a, kOpd2_a, kDat_a, kDat2_a, kBV_a, kBV2_tt, kBV2_ff, kBV2_tf, kBV2_ft, kBT_tt, kBT_ff, kBT_tf, kBT_ft, kComp_a, kSrc_a, kChain_a, kChain2_a, kChain3_t, kChain3_f, kSet_a, kPar_a, kUnp_a, kFor_a, gV_d, gV_dk, gO_d, gO_o, var_v, var_o, var_t, oV_d, oV_own, tV_d, tV_own, vB_s, oB_s, non_v, non_o, bl_v, bl_o, bl_t, int_v, int_o, str_v, str_o, glb_v, glb_o, tup_v, tup_o, lst_v, lst_o, bin_v, bin_o, bin_t, cmp_t, cmp_v, cmp_o, isN_t, isN_v, isi_t, isi_v, not_t, bop_v, bop_o, bop_t, ife_v, ife_o, idx_v, idx_o, slA_v, slA_o, slB_v, slB_o, call_v, call_o, call_t, callk_v, blt_v, blt_o, comp_v, comp_o, compIf_v, compIf_o, dict0_v, dict1_v, src_eq, rng1_v, zip_v, chain_t, as_nl, as_cs, ds_nl, ds_cs, os_nl, os_cs, vs_nl, vs_cs, es_nl, es_cs, bv_1, bv_2, bt_1, bt_2, s_nil, s_cons, s_set, s_setLc, s_par, s_unp, s_ite, s_loop, s_frz, s_app, rt_non, rt_bl, rt_int, rt_str, rt_glb, rt_tup, rt_lst, rt_bin, rt_cmp, rt_chain, rt_isN, rt_not, rt_bop, rt_ife, rt_idx, rt_slA, rt_slB, rt_call, rt_callk, rt_blt, rt_comp, rt_compIf, rt_isi, gR_s, rt_var, DV.dat, DV.fz, List.getElem?_cons_zero, List.getElem?_cons_succ, List.set_cons_zero, List.set_cons_succ, Option.map_some, Option.map_none, Option.bind_some, Option.bind_none, List.any_cons, List.any_nil, Bool.or_false, Bool.false_or, Bool.or_true, Bool.true_or, Bool.not_true, Bool.not_false, isTy, bltD, blt1, blt2, truthD, intD, setAll, setMany]; rfl
        · rw [J_st, he, he'.notNone]
          simp only [bO_some, bO_none, lO_some, lO_none, iB_t, iB_f, thn_nx, thn_rt, thn_bk, thn_ct, endOf_rt, endOf_nx, kLift_a, kOk_a, kO2_a, kIte_t, kIte_f, kIfe_t, kIfe_f, kCall_a, kArgs_a, kArgs2_a, kVals_a, kVals2_a, kOpd_a, kOpd2_a, kDat_a, kDat2_a, kBV_a, kBV2_tt, kBV2_ff, kBV2_tf, kBV2_ft, kBT_tt, kBT_ff, kBT_tf, kBT_ft, kComp_a, kSrc_a, kChain_a, kChain2_a, kChain3_t, kChain3_f, kSet_a, kPar_a, kUnp_a, kFor_a, gV_d, gV_dk, gO_d, gO_o, var_v, var_o, var_t, oV_d, oV_own, tV_d, tV_own, vB_s, oB_s, non_v, non_o, bl_v, bl_o, bl_t, int_v, int_o, str_v, str_o, glb_v, glb_o, tup_v, tup_o, lst_v, lst_o, bin_v, bin_o, bin_t, cmp_t, cmp_v, cmp_o, isN_t, isN_v, isi_t, isi_v, not_t, bop_v, bop_o, bop_t, ife_v, ife_o, idx_v, idx_o, slA_v, slA_o, slB_v, slB_o, call_v, call_o, call_t, callk_v, blt_v, blt_o, comp_v, comp_o, compIf_v, compIf_o, dict0_v, dict1_v, src_eq, rng1_v, zip_v, chain_t, as_nl, as_cs, ds_nl, ds_cs, os_nl, os_cs, vs_nl, vs_cs, es_nl, es_cs, bv_1, bv_2, bt_1, bt_2, s_nil, s_cons, s_set, s_setLc, s_par, s_unp, s_ite, s_loop, s_frz, s_app, rt_non, rt_bl, rt_int, rt_str, rt_glb, rt_tup, rt_lst, rt_bin, rt_cmp, rt_chain, rt_isN, rt_not, rt_bop, rt_ife, rt_idx, rt_slA, rt_slB, rt_call, rt_callk, rt_blt, rt_comp, rt_compIf, rt_isi, gR_s, rt_var, DV.dat, DV.fz, List.getElem?_cons_zero, List.getElem?_cons_succ, List.set_cons_zero, List.set_cons_succ, Option.map_some, Option.map_none, Option.bind_some, Option.bind_none, List.any_cons, List.any_nil, Bool.or_false, Bool.false_or, Bool.or_true, Bool.true_or, Bool.not_true, Bool.not_false, isTy, bltD, blt1, blt2, truthD, intD, setAll, setMany, i0, i1, neS, eqS, gl2, beq_self_eq_true, beq_eq_false_iff_ne.mpr setrow, isN_n, he'.notNone]
          rfl
        · rw [J_st, he, he'.notNone, hf.notNone]
          simp only [bO_some, bO_none, lO_some, lO_none, iB_t, iB_f, thn_nx, thn_rt, thn_bk, thn_ct, endOf_rt, endOf_nx, kLift_a, kOk_a, kO2_a, kIte_t, kIte_f, kIfe_t, kIfe_f, kCall_a, kArgs_a, kArgs2_a, kVals_a, kVals2_a, kOpd_a, kOpd2_a, kDat_a, kDat2_a, kBV_a, kBV2_tt, kBV2_ff, kBV2_tf, kBV2_ft, kBT_tt, kBT_ff, kBT_tf, kBT_ft, kComp_a, kSrc_a, kChain_a, kChain2_a, kChain3_t, kChain3_f, kSet_a, kPar_a, kUnp_a, kFor_a, gV_d, gV_dk, gO_d, gO_o, var_v, var_o, var_t, oV_d, oV_own, tV_d, tV_own, vB_s, oB_s, non_v, non_o, bl_v, bl_o, bl_t, int_v, int_o, str_v, str_o, glb_v, glb_o, tup_v, tup_o, lst_v, lst_o, bin_v, bin_o, bin_t, cmp_t, cmp_v, cmp_o, isN_t, isN_v, isi_t, isi_v, not_t, bop_v, bop_o, bop_t, ife_v, ife_o, idx_v, idx_o, slA_v, slA_o, slB_v, slB_o, call_v, call_o, call_t, callk_v, blt_v, blt_o, comp_v, comp_o, compIf_v, compIf_o, dict0_v, dict1_v, src_eq, rng1_v, zip_v, chain_t, as_nl, as_cs, ds_nl, ds_cs, os_nl, os_cs, vs_nl, vs_cs, es_nl, es_cs, bv_1, bv_2, bt_1, bt_2, s_nil, s_cons, s_set, s_setLc, s_par, s_unp, s_ite, s_loop, s_frz, s_app, rt_non, rt_bl, rt_int, rt_str, rt_glb, rt_tup, rt_lst, rt_bin, rt_cmp, rt_chain, rt_isN, rt_not, rt_bop, rt_ife, rt_idx, rt_slA, rt_slB, rt_call, rt_callk, rt_blt, rt_comp, rt_compIf, rt_isi, gR_s, rt_var, DV.dat, DV.fz, List.getElem?_cons_zero, List.getElem?_cons_succ, List.set_cons_zero, List.set_cons_succ, Option.map_some, Option.map_none, Option.bind_some, Option.bind_none, List.any_cons, List.any_nil, Bool.or_false, Bool.false_or, Bool.or_true, Bool.true_or, Bool.not_true, Bool.not_false, isTy, bltD, blt1, blt2, truthD, intD, setAll, setMany, i0, i1, neS, eqS, gl1, gl2, beq_self_eq_true, beq_eq_false_iff_ne.mpr setrow, he'.notNone, hf.notNone, ih (n + 1) (by omega) _ _ he' hf]
          cases hj : J m e e' with
          | none =>
            simp only [bO_some, bO_none, lO_some, lO_none, iB_t, iB_f, thn_nx, thn_rt, thn_bk, thn_ct, endOf_rt, endOf_nx, kLift_a, kOk_a, kO2_a, kIte_t, kIte_f, kIfe_t, kIfe_f, kCall_a, kArgs_a, kArgs2_a, kVals_a, kVals2_a, kOpd_a, kOpd2_a, kDat_a, kDat2_a, kBV_a, kBV2_tt, kBV2_ff, kBV2_tf, kBV2_ft, kBT_tt, kBT_ff, kBT_tf, kBT_ft, kComp_a, kSrc_a, kChain_a, kChain2_a, kChain3_t, kChain3_f, kSet_a, kPar_a, kUnp_a, kFor_a, gV_d, gV_dk, gO_d, gO_o, var_v, var_o, var_t, oV_d, oV_own, tV_d, tV_own, vB_s, oB_s, non_v, non_o, bl_v, bl_o, bl_t, int_v, int_o, str_v, str_o, glb_v, glb_o, tup_v, tup_o, lst_v, lst_o, bin_v, bin_o, bin_t, cmp_t, cmp_v, cmp_o, isN_t, isN_v, isi_t, isi_v, not_t, bop_v, bop_o, bop_t, ife_v, ife_o, idx_v, idx_o, slA_v, slA_o, slB_v, slB_o, call_v, call_o, call_t, callk_v, blt_v, blt_o, comp_v, comp_o, compIf_v, compIf_o, dict0_v, dict1_v, src_eq, rng1_v, zip_v, chain_t, as_nl, as_cs, ds_nl, ds_cs, os_nl, os_cs, vs_nl, vs_cs, es_nl, es_cs, bv_1, bv_2, bt_1, bt_2, s_nil, s_cons, s_set, s_setLc, s_par, s_unp, s_ite, s_loop, s_frz, s_app, rt_non, rt_bl, rt_int, rt_str, rt_glb, rt_tup, rt_lst, rt_bin, rt_cmp, rt_chain, rt_isN, rt_not, rt_bop, rt_ife, rt_idx, rt_slA, rt_slB, rt_call, rt_callk, rt_blt, rt_comp, rt_compIf, rt_isi, gR_s, rt_var, DV.dat, DV.fz, List.getElem?_cons_zero, List.getElem?_cons_succ, List.set_cons_zero, List.set_cons_succ, Option.map_some, Option.map_none, Option.bind_some, Option.bind_none, List.any_cons, List.any_nil, Bool.or_false, Bool.false_or, Bool.or_true, Bool.true_or, Bool.not_true, Bool.not_false, isTy, bltD, blt1, blt2, truthD, intD, setAll, setMany, oD, Option.getD_none, isN_n]
            rfl
          | some c =>
            simp only [bO_some, bO_none, lO_some, lO_none, iB_t, iB_f, thn_nx, thn_rt, thn_bk, thn_ct, endOf_rt, endOf_nx, kLift_a, kOk_a, kO2_a, kIte_t, kIte_f, kIfe_t, kIfe_f, kCall_a, kArgs_a, kArgs2_a, kVals_a, kVals2_a, kOpd_a, kOpd2_a, kDat_a, kDat2_a, kBV_a, kBV2_tt, kBV2_ff, kBV2_tf, kBV2_ft, kBT_tt, kBT_ff, kBT_tf, kBT_ft, kComp_a, kSrc_a, kChain_a, kChain2_a, kChain3_t, kChain3_f, kSet_a, kPar_a, kUnp_a, kFor_a, gV_d, gV_dk, gO_d, gO_o, var_v, var_o, var_t, oV_d, oV_own, tV_d, tV_own, vB_s, oB_s, non_v, non_o, bl_v, bl_o, bl_t, int_v, int_o, str_v, str_o, glb_v, glb_o, tup_v, tup_o, lst_v, lst_o, bin_v, bin_o, bin_t, cmp_t, cmp_v, cmp_o, isN_t, isN_v, isi_t, isi_v, not_t, bop_v, bop_o, bop_t, ife_v, ife_o, idx_v, idx_o, slA_v, slA_o, slB_v, slB_o, call_v, call_o, call_t, callk_v, blt_v, blt_o, comp_v, comp_o, compIf_v, compIf_o, dict0_v, dict1_v, src_eq, rng1_v, zip_v, chain_t, as_nl, as_cs, ds_nl, ds_cs, os_nl, os_cs, vs_nl, vs_cs, es_nl, es_cs, bv_1, bv_2, bt_1, bt_2, s_nil, s_cons, s_set, s_setLc, s_par, s_unp, s_ite, s_loop, s_frz, s_app, rt_non, rt_bl, rt_int, rt_str, rt_glb, rt_tup, rt_lst, rt_bin, rt_cmp, rt_chain, rt_isN, rt_not, rt_bop, rt_ife, rt_idx, rt_slA, rt_slB, rt_call, rt_callk, rt_blt, rt_comp, rt_compIf, rt_isi, gR_s, rt_var, DV.dat, DV.fz, List.getElem?_cons_zero, List.getElem?_cons_succ, List.set_cons_zero, List.set_cons_succ, Option.map_some, Option.map_none, Option.bind_some, Option.bind_none, List.any_cons, List.any_nil, Bool.or_false, Bool.false_or, Bool.or_true, Bool.true_or, Bool.not_true, Bool.not_false, isTy, bltD, blt1, blt2, truthD, intD, setAll, setMany, oD, Option.getD_some, (J_kd he' hf hj).notNone, gl1]
            rfl
        · rw [J_sr]
          simp only [bO_some, bO_none, lO_some, lO_none, iB_t, iB_f, thn_nx, thn_rt, thn_bk, thn_ct, endOf_rt, endOf_nx, kLift_a, kOk_a, kO2_a, kIte_t, kIte_f, kIfe_t, kIfe_f, kCall_a, kArgs_a, kArgs2_a, kVals_a, kVals2_a, kOpd_a, kOpd2_a, kDat_a, kDat2_a, kBV_a, kBV2_tt, kBV2_ff, kBV2_tf, kBV2_ft, kBT_tt, kBT_ff, kBT_tf, kBT_ft, kComp_a, kSrc_a, kChain_a, kChain2_a, kChain3_t, kChain3_f, kSet_a, kPar_a, kUnp_a, kFor_a, gV_d, gV_dk, gO_d, gO_o, var_v, var_o, var_t, oV_d, oV_own, tV_d, tV_own, vB_s, oB_s, non_v, non_o, bl_v, bl_o, bl_t, int_v, int_o, str_v, str_o, glb_v, glb_o, tup_v, tup_o, lst_v, lst_o, bin_v, bin_o, bin_t, cmp_t, cmp_v, cmp_o, isN_t, isN_v, isi_t, isi_v, not_t, bop_v, bop_o, bop_t, ife_v, ife_o, idx_v, idx_o, slA_v, slA_o, slB_v, slB_o, call_v, call_o, call_t, callk_v, blt_v, blt_o, comp_v, comp_o, compIf_v, compIf_o, dict0_v, dict1_v, src_eq, rng1_v, zip_v, chain_t, as_nl, as_cs, ds_nl, ds_cs, os_nl, os_cs, vs_nl, vs_cs, es_nl, es_cs, bv_1, bv_2, bt_1, bt_2, s_nil, s_cons, s_set, s_setLc, s_par, s_unp, s_ite, s_loop, s_frz, s_app, rt_non, rt_bl, rt_int, rt_str, rt_glb, rt_tup, rt_lst, rt_bin, rt_cmp, rt_chain, rt_isN, rt_not, rt_bop, rt_ife, rt_idx, rt_slA, rt_slB, rt_call, rt_callk, rt_blt, rt_comp, rt_compIf, rt_isi, gR_s, rt_var, DV.dat, DV.fz, List.getElem?_cons_zero, List.getElem?_cons_succ, List.set_cons_zero, List.set_cons_succ, Option.map_some, Option.map_none, Option.bind_some, Option.bind_none, List.any_cons, List.any_nil, Bool.or_false, Bool.false_or, Bool.or_true, Bool.true_or, Bool.not_true, Bool.not_false, isTy, bltD, blt1, blt2, truthD, intD, setAll, setMany, i0, i1, neS, eqS, gl2, beq_eq_false_iff_ne.mpr setrow]
          rfl
      · rcases hb with ⟨x, rfl, hx⟩ | rfl | ⟨e', rfl, hf⟩ | ⟨es', rfl, f1, f2, f3⟩
        · rw [J_strr, he]; simp only [bO_some, bO_none, lO_some, lO_none, iB_t, iB_f, thn_nx, thn_rt, thn_bk, thn_ct, endOf_rt, endOf_nx, kLift_a, kOk_a, kO2_a, kIte_t, kIte_f, kIfe_t, kIfe_f, kCall_a, kArgs_a, kArgs2_a, kVals_a, kVals2_a, kOpd_a, kOpd2_a, kDat_a, kDat2_a, kBV_a, kBV2_tt, kBV2_ff, kBV2_tf, kBV2_ft, kBT_tt, kBT_ff, kBT_tf, kBT_ft, kComp_a, kSrc_a, kChain_a, kChain2_a, kChain3_t, kChain3_f, kSet_a, kPar_a, kUnp_a, kFor_a, gV_d, gV_dk, gO_d, gO_o, var_v, var_o, var_t, oV_d, oV_own, tV_d, tV_own, vB_s, oB_s, non_v, non_o, bl_v, bl_o, bl_t, int_v, int_o, str_v, str_o, glb_v, glb_o, tup_v, tup_o, lst_v, lst_o, bin_v, bin_o, bin_t, cmp_t, cmp_v, cmp_o, isN_t, isN_v, isi_t, isi_v, not_t, bop_v, bop_o, bop_t, ife_v, ife_o, idx_v, idx_o, slA_v, slA_o, slB_v, slB_o, call_v, call_o, call_t, callk_v, blt_v, blt_o, comp_v, comp_o, compIf_v, compIf_o, dict0_v, dict1_v, src_eq, rng1_v, zip_v, chain_t, as_nl, as_cs, ds_nl, ds_cs, os_nl, os_cs, vs_nl, vs_cs, es_nl, es_cs, bv_1, bv_2, bt_1, bt_2, s_nil, s_cons, s_set, s_setLc, s_par, s_unp, s_ite, s_loop, s_frz, s_app, rt_non, rt_bl, rt_int, rt_str, rt_glb, rt_tup, rt_lst, rt_bin, rt_cmp, rt_chain, rt_isN, rt_not, rt_bop, rt_ife, rt_idx, rt_slA, rt_slB, rt_call, rt_callk, rt_blt, rt_comp, rt_compIf, rt_isi, gR_s, rt_var, DV.dat, DV.fz, List.getElem?_cons_zero, List.getElem?_cons_succ, List.set_cons_zero, List.set_cons_succ, Option.map_some, Option.map_none, Option.bind_some, Option.bind_none, List.any_cons, List.any_nil, Bool.or_false, Bool.false_or, Bool.or_true, Bool.true_or, Bool.not_true, Bool.not_false, isTy, bltD, blt1, blt2, truthD, intD, setAll, setMany]; rfl
        · rw [J_rs]
          simp only [bO_some, bO_none, lO_some, lO_none, iB_t, iB_f, thn_nx, thn_rt, thn_bk, thn_ct, endOf_rt, endOf_nx, kLift_a, kOk_a, kO2_a, kIte_t, kIte_f, kIfe_t, kIfe_f, kCall_a, kArgs_a, kArgs2_a, kVals_a, kVals2_a, kOpd_a, kOpd2_a, kDat_a, kDat2_a, kBV_a, kBV2_tt, kBV2_ff, kBV2_tf, kBV2_ft, kBT_tt, kBT_ff, kBT_tf, kBT_ft, kComp_a, kSrc_a, kChain_a, kChain2_a, kChain3_t, kChain3_f, kSet_a, kPar_a, kUnp_a, kFor_a, gV_d, gV_dk, gO_d, gO_o, var_v, var_o, var_t, oV_d, oV_own, tV_d, tV_own, vB_s, oB_s, non_v, non_o, bl_v, bl_o, bl_t, int_v, int_o, str_v, str_o, glb_v, glb_o, tup_v, tup_o, lst_v, lst_o, bin_v, bin_o, bin_t, cmp_t, cmp_v, cmp_o, isN_t, isN_v, isi_t, isi_v, not_t, bop_v, bop_o, bop_t, ife_v, ife_o, idx_v, idx_o, slA_v, slA_o, slB_v, slB_o, call_v, call_o, call_t, callk_v, blt_v, blt_o, comp_v, comp_o, compIf_v, compIf_o, dict0_v, dict1_v, src_eq, rng1_v, zip_v, chain_t, as_nl, as_cs, ds_nl, ds_cs, os_nl, os_cs, vs_nl, vs_cs, es_nl, es_cs, bv_1, bv_2, bt_1, bt_2, s_nil, s_cons, s_set, s_setLc, s_par, s_unp, s_ite, s_loop, s_frz, s_app, rt_non, rt_bl, rt_int, rt_str, rt_glb, rt_tup, rt_lst, rt_bin, rt_cmp, rt_chain, rt_isN, rt_not, rt_bop, rt_ife, rt_idx, rt_slA, rt_slB, rt_call, rt_callk, rt_blt, rt_comp, rt_compIf, rt_isi, gR_s, rt_var, DV.dat, DV.fz, List.getElem?_cons_zero, List.getElem?_cons_succ, List.set_cons_zero, List.set_cons_succ, Option.map_some, Option.map_none, Option.bind_some, Option.bind_none, List.any_cons, List.any_nil, Bool.or_false, Bool.false_or, Bool.or_true, Bool.true_or, Bool.not_true, Bool.not_false, isTy, bltD, blt1, blt2, truthD, intD, setAll, setMany, i0, i1, neS, eqS, gl2, beq_eq_false_iff_ne.mpr setrow.symm]
          rfl
        · rw [J_rs]
          simp only [bO_some, bO_none, lO_some, lO_none, iB_t, iB_f, thn_nx, thn_rt, thn_bk, thn_ct, endOf_rt, endOf_nx, kLift_a, kOk_a, kO2_a, kIte_t, kIte_f, kIfe_t, kIfe_f, kCall_a, kArgs_a, kArgs2_a, kVals_a, kVals2_a, kOpd_a, kOpd2_a, kDat_a, kDat2_a, kBV_a, kBV2_tt, kBV2_ff, kBV2_tf, kBV2_ft, kBT_tt, kBT_ff, kBT_tf, kBT_ft, kComp_a, kSrc_a, kChain_a, kChain2_a, kChain3_t, kChain3_f, kSet_a, kPar_a, kUnp_a, kFor_a, gV_d, gV_dk, gO_d, gO_o, var_v, var_o, var_t, oV_d, oV_own, tV_d, tV_own, vB_s, oB_s, non_v, non_o, bl_v, bl_o, bl_t, int_v, int_o, str_v, str_o, glb_v, glb_o, tup_v, tup_o, lst_v, lst_o, bin_v, bin_o, bin_t, cmp_t, cmp_v, cmp_o, isN_t, isN_v, isi_t, isi_v, not_t, bop_v, bop_o, bop_t, ife_v, ife_o, idx_v, idx_o, slA_v, slA_o, slB_v, slB_o, call_v, call_o, call_t, callk_v, blt_v, blt_o, comp_v, comp_o, compIf_v, compIf_o, dict0_v, dict1_v, src_eq, rng1_v, zip_v, chain_t, as_nl, as_cs, ds_nl, ds_cs, os_nl, os_cs, vs_nl, vs_cs, es_nl, es_cs, bv_1, bv_2, bt_1, bt_2, s_nil, s_cons, s_set, s_setLc, s_par, s_unp, s_ite, s_loop, s_frz, s_app, rt_non, rt_bl, rt_int, rt_str, rt_glb, rt_tup, rt_lst, rt_bin, rt_cmp, rt_chain, rt_isN, rt_not, rt_bop, rt_ife, rt_idx, rt_slA, rt_slB, rt_call, rt_callk, rt_blt, rt_comp, rt_compIf, rt_isi, gR_s, rt_var, DV.dat, DV.fz, List.getElem?_cons_zero, List.getElem?_cons_succ, List.set_cons_zero, List.set_cons_succ, Option.map_some, Option.map_none, Option.bind_some, Option.bind_none, List.any_cons, List.any_nil, Bool.or_false, Bool.false_or, Bool.or_true, Bool.true_or, Bool.not_true, Bool.not_false, isTy, bltD, blt1, blt2, truthD, intD, setAll, setMany, i0, i1, neS, eqS, gl2, beq_eq_false_iff_ne.mpr setrow.symm]
          rfl
        · rw [J_rw, he]
          have rk := rows_ok n m (by omega) k (ih n (by omega)) es es' e3 f3 e2 f2
          simp only [bO_some, bO_none, lO_some, lO_none, iB_t, iB_f, thn_nx, thn_rt, thn_bk, thn_ct, endOf_rt, endOf_nx, kLift_a, kOk_a, kO2_a, kIte_t, kIte_f, kIfe_t, kIfe_f, kCall_a, kArgs_a, kArgs2_a, kVals_a, kVals2_a, kOpd_a, kOpd2_a, kDat_a, kDat2_a, kBV_a, kBV2_tt, kBV2_ff, kBV2_tf, kBV2_ft, kBT_tt, kBT_ff, kBT_tf, kBT_ft, kComp_a, kSrc_a, kChain_a, kChain2_a, kChain3_t, kChain3_f, kSet_a, kPar_a, kUnp_a, kFor_a, gV_d, gV_dk, gO_d, gO_o, var_v, var_o, var_t, oV_d, oV_own, tV_d, tV_own, vB_s, oB_s, non_v, non_o, bl_v, bl_o, bl_t, int_v, int_o, str_v, str_o, glb_v, glb_o, tup_v, tup_o, lst_v, lst_o, bin_v, bin_o, bin_t, cmp_t, cmp_v, cmp_o, isN_t, isN_v, isi_t, isi_v, not_t, bop_v, bop_o, bop_t, ife_v, ife_o, idx_v, idx_o, slA_v, slA_o, slB_v, slB_o, call_v, call_o, call_t, callk_v, blt_v, blt_o, comp_v, comp_o, compIf_v, compIf_o, dict0_v, dict1_v, src_eq, rng1_v, zip_v, chain_t, as_nl, as_cs, ds_nl, ds_cs, os_nl, os_cs, vs_nl, vs_cs, es_nl, es_cs, bv_1, bv_2, bt_1, bt_2, s_nil, s_cons, s_set, s_setLc, s_par, s_unp, s_ite, s_loop, s_frz, s_app, rt_non, rt_bl, rt_int, rt_str, rt_glb, rt_tup, rt_lst, rt_bin, rt_cmp, rt_chain, rt_isN, rt_not, rt_bop, rt_ife, rt_idx, rt_slA, rt_slB, rt_call, rt_callk, rt_blt, rt_comp, rt_compIf, rt_isi, gR_s, rt_var, DV.dat, DV.fz, List.getElem?_cons_zero, List.getElem?_cons_succ, List.set_cons_zero, List.set_cons_succ, Option.map_some, Option.map_none, Option.bind_some, Option.bind_none, List.any_cons, List.any_nil, Bool.or_false, Bool.false_or, Bool.or_true, Bool.true_or, Bool.not_true, Bool.not_false, isTy, bltD, blt1, blt2, truthD, intD, setAll, setMany, i0, i1, neS, eqS, gl2, beq_self_eq_true, rk, Bool.false_eq_true, if_false]
/-- the law's own join -/
def lst1 (o : Option PyData) : List PyData := match o with
  | some d => [d]
  | none => []
theorem lst1_s {c : PyData} : lst1 (some c) = [c] := rfl
theorem eqvL {a b : List PyData} : PyData.eqv (.list a) (.list b) = PyData.eqvAll a b := by simp only [PyData.eqv]
theorem notInNil {f : PyData → PyData → Option PyData} {m : Nat} : ∀ xs ys : List PyData, (∀ x ∈ xs, ∀ y ∈ ys, ∀ c, f x y = some c → Nice m c) → xs.length = ys.length →
    ((List.zipWith (fun x y => PyData.list (lst1 (f x y))) xs ys).any fun z => PyData.eqv z (.list [])) = (Jl f xs ys).isNone ∧ (∀ zs, Jl f xs ys = some zs → List.zipWith (fun x y => PyData.list (lst1 (f x y))) xs ys = zs.map fun z => .list [z]) ∧
      ∀ z ∈ List.zipWith (fun x y => PyData.list (lst1 (f x y))) xs ys, PyData.canLay0 z = true ∧ PyData.depth z ≤ m + 1
  | [], [], _, _ => by simp [Jl]
  | [], _ :: _, _, e => by simp at e
  | _ :: _, [], _, e => by simp at e
  | x :: xs, y :: ys, hf, e => by
    obtain ⟨h1, h2, h3⟩ := notInNil xs ys (fun a ha b hb => hf a (List.mem_cons_of_mem _ ha) b (List.mem_cons_of_mem _ hb)) (by simpa using e)
    cases hz : f x y with
    | none =>
      refine ⟨?_, fun zs h => ?_, fun z hm => ?_⟩
      · simp [hz, lst1, Jl, PyData.eqv, PyData.eqvAll]
      · simp [Jl, hz] at h
      · simp only [List.zipWith_cons_cons, hz] at hm
        rcases List.mem_cons.mp hm with rfl | hm
        · exact ⟨rfl, by simp [lst1, PyData.depth, PyData.depthAll]⟩
        · exact h3 z hm
    | some c =>
      have hc := hf x List.mem_cons_self y List.mem_cons_self c hz
      refine ⟨?_, fun zs h => ?_, fun z hm => ?_⟩
      · simp only [List.zipWith_cons_cons, hz, lst1_s, List.any_cons]
        rw [show PyData.eqv (.list [c]) (.list []) = false by simp [PyData.eqv, PyData.eqvAll], Bool.false_or]
        rw [h1]
        rw [Jl, hz]
        cases Jl f xs ys <;> rfl
      · rw [Jl, hz] at h
        cases hj : Jl f xs ys with
        | none => rw [hj] at h; cases h
        | some zs' =>
          rw [hj] at h
          cases h
          rw [List.zipWith_cons_cons, h2 zs' hj, hz]
          rfl
      · simp only [List.zipWith_cons_cons, hz] at hm
        rcases List.mem_cons.mp hm with rfl | hm
        · refine ⟨by simp [lst1, PyData.canLay0, PyData.canLayAll0, hc.l], ?_⟩
          have := hc.p
          simp only [lst1, PyData.depth, PyData.depthAll]
          omega
        · exact h3 z hm
theorem notIn_ok {m : Nat} {zs : List PyData} (h : ∀ z ∈ zs, PyData.canLay0 z = true ∧ PyData.depth z ≤ m) (l : m + 1 ≤ 64) : cmpD .NotIn (.list []) (.list zs) = some (!zs.any fun z => PyData.eqv z (.list [])) := by
  have e1 : SeqAt.shaped (.list []) = true := rfl
  have e2 : SeqAt.shaped (.list zs) = true := by
    have a := lays_iff fun x hx => (h x hx).1
    have b := deps_le fun x hx => (h x hx).2
    have e : PyData.depth (.list zs) ≤ 64 := by rw [PyData.depth]; omega
    simp only [SeqAt.shaped, PyData.canLay0, a, Bool.true_and, decide_eq_true_eq, e]
  simp only [cmpD, e1, e2, Bool.and_self, if_true]
theorem joined_ok : ∀ (m n : Nat) (a b : PyData) (k : OD), m ≤ 20 → m ≤ n → Kd m a → Kd m b → callD Pg n 12 [.d a, .d b] k = some (.own (lst1 (J m a b)), k)
  | 0, _, _, _, _, _, _, h, _ => h.elim
  | m + 1, 0, _, _, _, _, h, _, _ => by omega
  | m + 1, n + 1, a, b, k, hm, hn, ha, hb => by
    have ih : ∀ a b, Kd m a → Kd m b → callD Pg n 12 [.d a, .d b] k = some (.own (lst1 (J m a b)), k) := fun a b ha hb => joined_ok m n a b k (by omega) (by omega) ha hb
    show endOf (evSs (CX n) b12 [some (.d a), some (.d b), none, none, none, none, none] k) = _
    unfold b12
    simp only [bO_some, bO_none, lO_some, lO_none, iB_t, iB_f, thn_nx, thn_rt, thn_bk, thn_ct, endOf_rt, endOf_nx, kLift_a, kOk_a, kO2_a, kIte_t, kIte_f, kIfe_t, kIfe_f, kCall_a, kArgs_a, kArgs2_a, kVals_a, kVals2_a, kOpd_a, kOpd2_a, kDat_a, kDat2_a, kBV_a, kBV2_tt, kBV2_ff, kBV2_tf, kBV2_ft, kBT_tt, kBT_ff, kBT_tf, kBT_ft, kComp_a, kSrc_a, kChain_a, kChain2_a, kChain3_t, kChain3_f, kSet_a, kPar_a, kUnp_a, kFor_a, gV_d, gV_dk, gO_d, gO_o, var_v, var_o, var_t, oV_d, oV_own, tV_d, tV_own, vB_s, oB_s, non_v, non_o, bl_v, bl_o, bl_t, int_v, int_o, str_v, str_o, glb_v, glb_o, tup_v, tup_o, lst_v, lst_o, bin_v, bin_o, bin_t, cmp_t, cmp_v, cmp_o, isN_t, isN_v, isi_t, isi_v, not_t, bop_v, bop_o, bop_t, ife_v, ife_o, idx_v, idx_o, slA_v, slA_o, slB_v, slB_o, call_v, call_o, call_t, callk_v, blt_v, blt_o, comp_v, comp_o, compIf_v, compIf_o, dict0_v, dict1_v, src_eq, rng1_v, zip_v, chain_t, as_nl, as_cs, ds_nl, ds_cs, os_nl, os_cs, vs_nl, vs_cs, es_nl, es_cs, bv_1, bv_2, bt_1, bt_2, s_nil, s_cons, s_set, s_setLc, s_par, s_unp, s_ite, s_loop, s_frz, s_app, rt_non, rt_bl, rt_int, rt_str, rt_glb, rt_tup, rt_lst, rt_bin, rt_cmp, rt_chain, rt_isN, rt_not, rt_bop, rt_ife, rt_idx, rt_slA, rt_slB, rt_call, rt_callk, rt_blt, rt_comp, rt_compIf, rt_isi, gR_s, rt_var, DV.dat, DV.fz, List.getElem?_cons_zero, List.getElem?_cons_succ, List.set_cons_zero, List.set_cons_succ, Option.map_some, Option.map_none, Option.bind_some, Option.bind_none, List.any_cons, List.any_nil, Bool.or_false, Bool.false_or, Bool.or_true, Bool.true_or, Bool.not_true, Bool.not_false, isTy, bltD, blt1, blt2, truthD, intD, setAll, setMany, eqD ha.nice hb.nice (by omega)]
    cases he : PyData.eqv a b with
    | true =>
      have : J (m + 1) a b = some a := by unfold J; rw [if_pos he]
      simp only [bO_some, bO_none, lO_some, lO_none, iB_t, iB_f, thn_nx, thn_rt, thn_bk, thn_ct, endOf_rt, endOf_nx, kLift_a, kOk_a, kO2_a, kIte_t, kIte_f, kIfe_t, kIfe_f, kCall_a, kArgs_a, kArgs2_a, kVals_a, kVals2_a, kOpd_a, kOpd2_a, kDat_a, kDat2_a, kBV_a, kBV2_tt, kBV2_ff, kBV2_tf, kBV2_ft, kBT_tt, kBT_ff, kBT_tf, kBT_ft, kComp_a, kSrc_a, kChain_a, kChain2_a, kChain3_t, kChain3_f, kSet_a, kPar_a, kUnp_a, kFor_a, gV_d, gV_dk, gO_d, gO_o, var_v, var_o, var_t, oV_d, oV_own, tV_d, tV_own, vB_s, oB_s, non_v, non_o, bl_v, bl_o, bl_t, int_v, int_o, str_v, str_o, glb_v, glb_o, tup_v, tup_o, lst_v, lst_o, bin_v, bin_o, bin_t, cmp_t, cmp_v, cmp_o, isN_t, isN_v, isi_t, isi_v, not_t, bop_v, bop_o, bop_t, ife_v, ife_o, idx_v, idx_o, slA_v, slA_o, slB_v, slB_o, call_v, call_o, call_t, callk_v, blt_v, blt_o, comp_v, comp_o, compIf_v, compIf_o, dict0_v, dict1_v, src_eq, rng1_v, zip_v, chain_t, as_nl, as_cs, ds_nl, ds_cs, os_nl, os_cs, vs_nl, vs_cs, es_nl, es_cs, bv_1, bv_2, bt_1, bt_2, s_nil, s_cons, s_set, s_setLc, s_par, s_unp, s_ite, s_loop, s_frz, s_app, rt_non, rt_bl, rt_int, rt_str, rt_glb, rt_tup, rt_lst, rt_bin, rt_cmp, rt_chain, rt_isN, rt_not, rt_bop, rt_ife, rt_idx, rt_slA, rt_slB, rt_call, rt_callk, rt_blt, rt_comp, rt_compIf, rt_isi, gR_s, rt_var, DV.dat, DV.fz, List.getElem?_cons_zero, List.getElem?_cons_succ, List.set_cons_zero, List.set_cons_succ, Option.map_some, Option.map_none, Option.bind_some, Option.bind_none, List.any_cons, List.any_nil, Bool.or_false, Bool.false_or, Bool.or_true, Bool.true_or, Bool.not_true, Bool.not_false, isTy, bltD, blt1, blt2, truthD, intD, setAll, setMany, this, lst1]
    | false =>
      rcases ha with ⟨x, rfl, hx⟩ | rfl | ⟨e, rfl, he'⟩ | ⟨es, rfl, e1, e2, e3⟩
      · rw [J_strl, he]; simp only [bO_some, bO_none, lO_some, lO_none, iB_t, iB_f, thn_nx, thn_rt, thn_bk, thn_ct, endOf_rt, endOf_nx, kLift_a, kOk_a, kO2_a, kIte_t, kIte_f, kIfe_t, kIfe_f, kCall_a, kArgs_a, kArgs2_a, kVals_a, kVals2_a, kOpd_a, kOpd2_a, kDat_a, kDat2_a, kBV_a, kBV2_tt, kBV2_ff, kBV2_tf, kBV2_ft, kBT_tt, kBT_ff, kBT_tf, kBT_ft, kComp_a, kSrc_a, kChain_a, kChain2_a, kChain3_t, kChain3_f, kSet_a, kPar_a, kUnp_a, kFor_a, gV_d, gV_dk, gO_d, gO_o, var_v, var_o, var_t, oV_d, oV_own, tV_d, tV_own, vB_s, oB_s, non_v, non_o, bl_v, bl_o, bl_t, int_v, int_o, str_v, str_o, glb_v, glb_o, tup_v, tup_o, lst_v, lst_o, bin_v, bin_o, bin_t, cmp_t, cmp_v, cmp_o, isN_t, isN_v, isi_t, isi_v, not_t, bop_v, bop_o, bop_t, ife_v, ife_o, idx_v, idx_o, slA_v, slA_o, slB_v, slB_o, call_v, call_o, call_t, callk_v, blt_v, blt_o, comp_v, comp_o, compIf_v, compIf_o, dict0_v, dict1_v, src_eq, rng1_v, zip_v, chain_t, as_nl, as_cs, ds_nl, ds_cs, os_nl, os_cs, vs_nl, vs_cs, es_nl, es_cs, bv_1, bv_2, bt_1, bt_2, s_nil, s_cons, s_set, s_setLc, s_par, s_unp, s_ite, s_loop, s_frz, s_app, rt_non, rt_bl, rt_int, rt_str, rt_glb, rt_tup, rt_lst, rt_bin, rt_cmp, rt_chain, rt_isN, rt_not, rt_bop, rt_ife, rt_idx, rt_slA, rt_slB, rt_call, rt_callk, rt_blt, rt_comp, rt_compIf, rt_isi, gR_s, rt_var, DV.dat, DV.fz, List.getElem?_cons_zero, List.getElem?_cons_succ, List.set_cons_zero, List.set_cons_succ, Option.map_some, Option.map_none, Option.bind_some, Option.bind_none, List.any_cons, List.any_nil, Bool.or_false, Bool.false_or, Bool.or_true, Bool.true_or, Bool.not_true, Bool.not_false, isTy, bltD, blt1, blt2, truthD, intD, setAll, setMany]; rfl
      · rcases hb with ⟨x, rfl, hx⟩ | rfl | ⟨e', rfl, hf⟩ | ⟨es', rfl, f1, f2, f3⟩
        · rw [J_strr, he]; simp only [bO_some, bO_none, lO_some, lO_none, iB_t, iB_f, thn_nx, thn_rt, thn_bk, thn_ct, endOf_rt, endOf_nx, kLift_a, kOk_a, kO2_a, kIte_t, kIte_f, kIfe_t, kIfe_f, kCall_a, kArgs_a, kArgs2_a, kVals_a, kVals2_a, kOpd_a, kOpd2_a, kDat_a, kDat2_a, kBV_a, kBV2_tt, kBV2_ff, kBV2_tf, kBV2_ft, kBT_tt, kBT_ff, kBT_tf, kBT_ft, kComp_a, kSrc_a, kChain_a, kChain2_a, kChain3_t, kChain3_f, kSet_a, kPar_a, kUnp_a, kFor_a, gV_d, gV_dk, gO_d, gO_o, var_v, var_o, var_t, oV_d, oV_own, tV_d, tV_own, vB_s, oB_s, non_v, non_o, bl_v, bl_o, bl_t, int_v, int_o, str_v, str_o, glb_v, glb_o, tup_v, tup_o, lst_v, lst_o, bin_v, bin_o, bin_t, cmp_t, cmp_v, cmp_o, isN_t, isN_v, isi_t, isi_v, not_t, bop_v, bop_o, bop_t, ife_v, ife_o, idx_v, idx_o, slA_v, slA_o, slB_v, slB_o, call_v, call_o, call_t, callk_v, blt_v, blt_o, comp_v, comp_o, compIf_v, compIf_o, dict0_v, dict1_v, src_eq, rng1_v, zip_v, chain_t, as_nl, as_cs, ds_nl, ds_cs, os_nl, os_cs, vs_nl, vs_cs, es_nl, es_cs, bv_1, bv_2, bt_1, bt_2, s_nil, s_cons, s_set, s_setLc, s_par, s_unp, s_ite, s_loop, s_frz, s_app, rt_non, rt_bl, rt_int, rt_str, rt_glb, rt_tup, rt_lst, rt_bin, rt_cmp, rt_chain, rt_isN, rt_not, rt_bop, rt_ife, rt_idx, rt_slA, rt_slB, rt_call, rt_callk, rt_blt, rt_comp, rt_compIf, rt_isi, gR_s, rt_var, DV.dat, DV.fz, List.getElem?_cons_zero, List.getElem?_cons_succ, List.set_cons_zero, List.set_cons_succ, Option.map_some, Option.map_none, Option.bind_some, Option.bind_none, List.any_cons, List.any_nil, Bool.or_false, Bool.false_or, Bool.or_true, Bool.true_or, Bool.not_true, Bool.not_false, isTy, bltD, blt1, blt2, truthD, intD, setAll, setMany]; rfl
        · cases he
        · rw [J_st, he]
          simp only [bO_some, bO_none, lO_some, lO_none, iB_t, iB_f, thn_nx, thn_rt, thn_bk, thn_ct, endOf_rt, endOf_nx, kLift_a, kOk_a, kO2_a, kIte_t, kIte_f, kIfe_t, kIfe_f, kCall_a, kArgs_a, kArgs2_a, kVals_a, kVals2_a, kOpd_a, kOpd2_a, kDat_a, kDat2_a, kBV_a, kBV2_tt, kBV2_ff, kBV2_tf, kBV2_ft, kBT_tt, kBT_ff, kBT_tf, kBT_ft, kComp_a, kSrc_a, kChain_a, kChain2_a, kChain3_t, kChain3_f, kSet_a, kPar_a, kUnp_a, kFor_a, gV_d, gV_dk, gO_d, gO_o, var_v, var_o, var_t, oV_d, oV_own, tV_d, tV_own, vB_s, oB_s, non_v, non_o, bl_v, bl_o, bl_t, int_v, int_o, str_v, str_o, glb_v, glb_o, tup_v, tup_o, lst_v, lst_o, bin_v, bin_o, bin_t, cmp_t, cmp_v, cmp_o, isN_t, isN_v, isi_t, isi_v, not_t, bop_v, bop_o, bop_t, ife_v, ife_o, idx_v, idx_o, slA_v, slA_o, slB_v, slB_o, call_v, call_o, call_t, callk_v, blt_v, blt_o, comp_v, comp_o, compIf_v, compIf_o, dict0_v, dict1_v, src_eq, rng1_v, zip_v, chain_t, as_nl, as_cs, ds_nl, ds_cs, os_nl, os_cs, vs_nl, vs_cs, es_nl, es_cs, bv_1, bv_2, bt_1, bt_2, s_nil, s_cons, s_set, s_setLc, s_par, s_unp, s_ite, s_loop, s_frz, s_app, rt_non, rt_bl, rt_int, rt_str, rt_glb, rt_tup, rt_lst, rt_bin, rt_cmp, rt_chain, rt_isN, rt_not, rt_bop, rt_ife, rt_idx, rt_slA, rt_slB, rt_call, rt_callk, rt_blt, rt_comp, rt_compIf, rt_isi, gR_s, rt_var, DV.dat, DV.fz, List.getElem?_cons_zero, List.getElem?_cons_succ, List.set_cons_zero, List.set_cons_succ, Option.map_some, Option.map_none, Option.bind_some, Option.bind_none, List.any_cons, List.any_nil, Bool.or_false, Bool.false_or, Bool.or_true, Bool.true_or, Bool.not_true, Bool.not_false, isTy, bltD, blt1, blt2, truthD, intD, setAll, setMany, i0, i1, neS, eqS, beq_self_eq_true, isN_n]
          rfl
        · rw [J_sr]
          simp only [bO_some, bO_none, lO_some, lO_none, iB_t, iB_f, thn_nx, thn_rt, thn_bk, thn_ct, endOf_rt, endOf_nx, kLift_a, kOk_a, kO2_a, kIte_t, kIte_f, kIfe_t, kIfe_f, kCall_a, kArgs_a, kArgs2_a, kVals_a, kVals2_a, kOpd_a, kOpd2_a, kDat_a, kDat2_a, kBV_a, kBV2_tt, kBV2_ff, kBV2_tf, kBV2_ft, kBT_tt, kBT_ff, kBT_tf, kBT_ft, kComp_a, kSrc_a, kChain_a, kChain2_a, kChain3_t, kChain3_f, kSet_a, kPar_a, kUnp_a, kFor_a, gV_d, gV_dk, gO_d, gO_o, var_v, var_o, var_t, oV_d, oV_own, tV_d, tV_own, vB_s, oB_s, non_v, non_o, bl_v, bl_o, bl_t, int_v, int_o, str_v, str_o, glb_v, glb_o, tup_v, tup_o, lst_v, lst_o, bin_v, bin_o, bin_t, cmp_t, cmp_v, cmp_o, isN_t, isN_v, isi_t, isi_v, not_t, bop_v, bop_o, bop_t, ife_v, ife_o, idx_v, idx_o, slA_v, slA_o, slB_v, slB_o, call_v, call_o, call_t, callk_v, blt_v, blt_o, comp_v, comp_o, compIf_v, compIf_o, dict0_v, dict1_v, src_eq, rng1_v, zip_v, chain_t, as_nl, as_cs, ds_nl, ds_cs, os_nl, os_cs, vs_nl, vs_cs, es_nl, es_cs, bv_1, bv_2, bt_1, bt_2, s_nil, s_cons, s_set, s_setLc, s_par, s_unp, s_ite, s_loop, s_frz, s_app, rt_non, rt_bl, rt_int, rt_str, rt_glb, rt_tup, rt_lst, rt_bin, rt_cmp, rt_chain, rt_isN, rt_not, rt_bop, rt_ife, rt_idx, rt_slA, rt_slB, rt_call, rt_callk, rt_blt, rt_comp, rt_compIf, rt_isi, gR_s, rt_var, DV.dat, DV.fz, List.getElem?_cons_zero, List.getElem?_cons_succ, List.set_cons_zero, List.set_cons_succ, Option.map_some, Option.map_none, Option.bind_some, Option.bind_none, List.any_cons, List.any_nil, Bool.or_false, Bool.false_or, Bool.or_true, Bool.true_or, Bool.not_true, Bool.not_false, isTy, bltD, blt1, blt2, truthD, intD, setAll, setMany, i0, i1, neS, eqS, beq_eq_false_iff_ne.mpr setrow]
          rfl
      · rcases hb with ⟨x, rfl, hx⟩ | rfl | ⟨e', rfl, hf⟩ | ⟨es', rfl, f1, f2, f3⟩
        · rw [J_strr, he]; simp only [bO_some, bO_none, lO_some, lO_none, iB_t, iB_f, thn_nx, thn_rt, thn_bk, thn_ct, endOf_rt, endOf_nx, kLift_a, kOk_a, kO2_a, kIte_t, kIte_f, kIfe_t, kIfe_f, kCall_a, kArgs_a, kArgs2_a, kVals_a, kVals2_a, kOpd_a, kOpd2_a, kDat_a, kDat2_a, kBV_a, kBV2_tt, kBV2_ff, kBV2_tf, kBV2_ft, kBT_tt, kBT_ff, kBT_tf, kBT_ft, kComp_a, kSrc_a, kChain_a, kChain2_a, kChain3_t, kChain3_f, kSet_a, kPar_a, kUnp_a, kFor_a, gV_d, gV_dk, gO_d, gO_o, var_v, var_o, var_t, oV_d, oV_own, tV_d, tV_own, vB_s, oB_s, non_v, non_o, bl_v, bl_o, bl_t, int_v, int_o, str_v, str_o, glb_v, glb_o, tup_v, tup_o, lst_v, lst_o, bin_v, bin_o, bin_t, cmp_t, cmp_v, cmp_o, isN_t, isN_v, isi_t, isi_v, not_t, bop_v, bop_o, bop_t, ife_v, ife_o, idx_v, idx_o, slA_v, slA_o, slB_v, slB_o, call_v, call_o, call_t, callk_v, blt_v, blt_o, comp_v, comp_o, compIf_v, compIf_o, dict0_v, dict1_v, src_eq, rng1_v, zip_v, chain_t, as_nl, as_cs, ds_nl, ds_cs, os_nl, os_cs, vs_nl, vs_cs, es_nl, es_cs, bv_1, bv_2, bt_1, bt_2, s_nil, s_cons, s_set, s_setLc, s_par, s_unp, s_ite, s_loop, s_frz, s_app, rt_non, rt_bl, rt_int, rt_str, rt_glb, rt_tup, rt_lst, rt_bin, rt_cmp, rt_chain, rt_isN, rt_not, rt_bop, rt_ife, rt_idx, rt_slA, rt_slB, rt_call, rt_callk, rt_blt, rt_comp, rt_compIf, rt_isi, gR_s, rt_var, DV.dat, DV.fz, List.getElem?_cons_zero, List.getElem?_cons_succ, List.set_cons_zero, List.set_cons_succ, Option.map_some, Option.map_none, Option.bind_some, Option.bind_none, List.any_cons, List.any_nil, Bool.or_false, Bool.false_or, Bool.or_true, Bool.true_or, Bool.not_true, Bool.not_false, isTy, bltD, blt1, blt2, truthD, intD, setAll, setMany]; rfl
        · rw [J_st, he, he'.notNone]
          simp only [bO_some, bO_none, lO_some, lO_none, iB_t, iB_f, thn_nx, thn_rt, thn_bk, thn_ct, endOf_rt, endOf_nx, kLift_a, kOk_a, kO2_a, kIte_t, kIte_f, kIfe_t, kIfe_f, kCall_a, kArgs_a, kArgs2_a, kVals_a, kVals2_a, kOpd_a, kOpd2_a, kDat_a, kDat2_a, kBV_a, kBV2_tt, kBV2_ff, kBV2_tf, kBV2_ft, kBT_tt, kBT_ff, kBT_tf, kBT_ft, kComp_a, kSrc_a, kChain_a, kChain2_a, kChain3_t, kChain3_f, kSet_a, kPar_a, kUnp_a, kFor_a, gV_d, gV_dk, gO_d, gO_o, var_v, var_o, var_t, oV_d, oV_own, tV_d, tV_own, vB_s, oB_s, non_v, non_o, bl_v, bl_o, bl_t, int_v, int_o, str_v, str_o, glb_v, glb_o, tup_v, tup_o, lst_v, lst_o, bin_v, bin_o, bin_t, cmp_t, cmp_v, cmp_o, isN_t, isN_v, isi_t, isi_v, not_t, bop_v, bop_o, bop_t, ife_v, ife_o, idx_v, idx_o, slA_v, slA_o, slB_v, slB_o, call_v, call_o, call_t, callk_v, blt_v, blt_o, comp_v, comp_o, compIf_v, compIf_o, dict0_v, dict1_v, src_eq, rng1_v, zip_v, chain_t, as_nl, as_cs, ds_nl, ds_cs, os_nl, os_cs, vs_nl, vs_cs, es_nl, es_cs, bv_1, bv_2, bt_1, bt_2, s_nil, s_cons, s_set, s_setLc, s_par, s_unp, s_ite, s_loop, s_frz, s_app, rt_non, rt_bl, rt_int, rt_str, rt_glb, rt_tup, rt_lst, rt_bin, rt_cmp, rt_chain, rt_isN, rt_not, rt_bop, rt_ife, rt_idx, rt_slA, rt_slB, rt_call, rt_callk, rt_blt, rt_comp, rt_compIf, rt_isi, gR_s, rt_var, DV.dat, DV.fz, List.getElem?_cons_zero, List.getElem?_cons_succ, List.set_cons_zero, List.set_cons_succ, Option.map_some, Option.map_none, Option.bind_some, Option.bind_none, List.any_cons, List.any_nil, Bool.or_false, Bool.false_or, Bool.or_true, Bool.true_or, Bool.not_true, Bool.not_false, isTy, bltD, blt1, blt2, truthD, intD, setAll, setMany, i0, i1, neS, eqS, beq_self_eq_true, isN_n, he'.notNone]
          rfl
        · rw [J_st, he, he'.notNone, hf.notNone]
          have hl : (lst1 (J m e e')).length ≤ sizeLine := by
            have : (1 : Nat) ≤ sizeLine := by decide
            cases J m e e' <;> simp [lst1] <;> omega
          have cm := comp_map (tg := 4) (e := (evA (CX n) b12_0).v) (f := fun x => St x) (ρ := [some (.d (St e)), some (.d (St e')), some (.d e), some (.d e'), none, none, none]) (k := k) (lst1 (J m e e')) fun x _ => by
            simp only [b12_0, bO_some, bO_none, lO_some, lO_none, iB_t, iB_f, thn_nx, thn_rt, thn_bk, thn_ct, endOf_rt, endOf_nx, kLift_a, kOk_a, kO2_a, kIte_t, kIte_f, kIfe_t, kIfe_f, kCall_a, kArgs_a, kArgs2_a, kVals_a, kVals2_a, kOpd_a, kOpd2_a, kDat_a, kDat2_a, kBV_a, kBV2_tt, kBV2_ff, kBV2_tf, kBV2_ft, kBT_tt, kBT_ff, kBT_tf, kBT_ft, kComp_a, kSrc_a, kChain_a, kChain2_a, kChain3_t, kChain3_f, kSet_a, kPar_a, kUnp_a, kFor_a, gV_d, gV_dk, gO_d, gO_o, var_v, var_o, var_t, oV_d, oV_own, tV_d, tV_own, vB_s, oB_s, non_v, non_o, bl_v, bl_o, bl_t, int_v, int_o, str_v, str_o, glb_v, glb_o, tup_v, tup_o, lst_v, lst_o, bin_v, bin_o, bin_t, cmp_t, cmp_v, cmp_o, isN_t, isN_v, isi_t, isi_v, not_t, bop_v, bop_o, bop_t, ife_v, ife_o, idx_v, idx_o, slA_v, slA_o, slB_v, slB_o, call_v, call_o, call_t, callk_v, blt_v, blt_o, comp_v, comp_o, compIf_v, compIf_o, dict0_v, dict1_v, src_eq, rng1_v, zip_v, chain_t, as_nl, as_cs, ds_nl, ds_cs, os_nl, os_cs, vs_nl, vs_cs, es_nl, es_cs, bv_1, bv_2, bt_1, bt_2, s_nil, s_cons, s_set, s_setLc, s_par, s_unp, s_ite, s_loop, s_frz, s_app, rt_non, rt_bl, rt_int, rt_str, rt_glb, rt_tup, rt_lst, rt_bin, rt_cmp, rt_chain, rt_isN, rt_not, rt_bop, rt_ife, rt_idx, rt_slA, rt_slB, rt_call, rt_callk, rt_blt, rt_comp, rt_compIf, rt_isi, gR_s, rt_var, DV.dat, DV.fz, List.getElem?_cons_zero, List.getElem?_cons_succ, List.set_cons_zero, List.set_cons_succ, Option.map_some, Option.map_none, Option.bind_some, Option.bind_none, List.any_cons, List.any_nil, Bool.or_false, Bool.false_or, Bool.or_true, Bool.true_or, Bool.not_true, Bool.not_false, isTy, bltD, blt1, blt2, truthD, intD, setAll, setMany, wipeE]
          simp only [bO_some, bO_none, lO_some, lO_none, iB_t, iB_f, thn_nx, thn_rt, thn_bk, thn_ct, endOf_rt, endOf_nx, kLift_a, kOk_a, kO2_a, kIte_t, kIte_f, kIfe_t, kIfe_f, kCall_a, kArgs_a, kArgs2_a, kVals_a, kVals2_a, kOpd_a, kOpd2_a, kDat_a, kDat2_a, kBV_a, kBV2_tt, kBV2_ff, kBV2_tf, kBV2_ft, kBT_tt, kBT_ff, kBT_tf, kBT_ft, kComp_a, kSrc_a, kChain_a, kChain2_a, kChain3_t, kChain3_f, kSet_a, kPar_a, kUnp_a, kFor_a, gV_d, gV_dk, gO_d, gO_o, var_v, var_o, var_t, oV_d, oV_own, tV_d, tV_own, vB_s, oB_s, non_v, non_o, bl_v, bl_o, bl_t, int_v, int_o, str_v, str_o, glb_v, glb_o, tup_v, tup_o, lst_v, lst_o, bin_v, bin_o, bin_t, cmp_t, cmp_v, cmp_o, isN_t, isN_v, isi_t, isi_v, not_t, bop_v, bop_o, bop_t, ife_v, ife_o, idx_v, idx_o, slA_v, slA_o, slB_v, slB_o, call_v, call_o, call_t, callk_v, blt_v, blt_o, comp_v, comp_o, compIf_v, compIf_o, dict0_v, dict1_v, src_eq, rng1_v, zip_v, chain_t, as_nl, as_cs, ds_nl, ds_cs, os_nl, os_cs, vs_nl, vs_cs, es_nl, es_cs, bv_1, bv_2, bt_1, bt_2, s_nil, s_cons, s_set, s_setLc, s_par, s_unp, s_ite, s_loop, s_frz, s_app, rt_non, rt_bl, rt_int, rt_str, rt_glb, rt_tup, rt_lst, rt_bin, rt_cmp, rt_chain, rt_isN, rt_not, rt_bop, rt_ife, rt_idx, rt_slA, rt_slB, rt_call, rt_callk, rt_blt, rt_comp, rt_compIf, rt_isi, gR_s, rt_var, DV.dat, DV.fz, List.getElem?_cons_zero, List.getElem?_cons_succ, List.set_cons_zero, List.set_cons_succ, Option.map_some, Option.map_none, Option.bind_some, Option.bind_none, List.any_cons, List.any_nil, Bool.or_false, Bool.false_or, Bool.or_true, Bool.true_or, Bool.not_true, Bool.not_false, isTy, bltD, blt1, blt2, truthD, intD, setAll, setMany, i0, i1, neS, eqS, beq_self_eq_true, he'.notNone, hf.notNone, ih _ _ he' hf, itemsD, srcL_ok hl, cm, Bool.false_eq_true, if_false]
          cases J m e e' <;> rfl
        · rw [J_sr]
          simp only [bO_some, bO_none, lO_some, lO_none, iB_t, iB_f, thn_nx, thn_rt, thn_bk, thn_ct, endOf_rt, endOf_nx, kLift_a, kOk_a, kO2_a, kIte_t, kIte_f, kIfe_t, kIfe_f, kCall_a, kArgs_a, kArgs2_a, kVals_a, kVals2_a, kOpd_a, kOpd2_a, kDat_a, kDat2_a, kBV_a, kBV2_tt, kBV2_ff, kBV2_tf, kBV2_ft, kBT_tt, kBT_ff, kBT_tf, kBT_ft, kComp_a, kSrc_a, kChain_a, kChain2_a, kChain3_t, kChain3_f, kSet_a, kPar_a, kUnp_a, kFor_a, gV_d, gV_dk, gO_d, gO_o, var_v, var_o, var_t, oV_d, oV_own, tV_d, tV_own, vB_s, oB_s, non_v, non_o, bl_v, bl_o, bl_t, int_v, int_o, str_v, str_o, glb_v, glb_o, tup_v, tup_o, lst_v, lst_o, bin_v, bin_o, bin_t, cmp_t, cmp_v, cmp_o, isN_t, isN_v, isi_t, isi_v, not_t, bop_v, bop_o, bop_t, ife_v, ife_o, idx_v, idx_o, slA_v, slA_o, slB_v, slB_o, call_v, call_o, call_t, callk_v, blt_v, blt_o, comp_v, comp_o, compIf_v, compIf_o, dict0_v, dict1_v, src_eq, rng1_v, zip_v, chain_t, as_nl, as_cs, ds_nl, ds_cs, os_nl, os_cs, vs_nl, vs_cs, es_nl, es_cs, bv_1, bv_2, bt_1, bt_2, s_nil, s_cons, s_set, s_setLc, s_par, s_unp, s_ite, s_loop, s_frz, s_app, rt_non, rt_bl, rt_int, rt_str, rt_glb, rt_tup, rt_lst, rt_bin, rt_cmp, rt_chain, rt_isN, rt_not, rt_bop, rt_ife, rt_idx, rt_slA, rt_slB, rt_call, rt_callk, rt_blt, rt_comp, rt_compIf, rt_isi, gR_s, rt_var, DV.dat, DV.fz, List.getElem?_cons_zero, List.getElem?_cons_succ, List.set_cons_zero, List.set_cons_succ, Option.map_some, Option.map_none, Option.bind_some, Option.bind_none, List.any_cons, List.any_nil, Bool.or_false, Bool.false_or, Bool.or_true, Bool.true_or, Bool.not_true, Bool.not_false, isTy, bltD, blt1, blt2, truthD, intD, setAll, setMany, i0, i1, neS, eqS, beq_eq_false_iff_ne.mpr setrow]
          rfl
      · rcases hb with ⟨x, rfl, hx⟩ | rfl | ⟨e', rfl, hf⟩ | ⟨es', rfl, f1, f2, f3⟩
        · rw [J_strr, he]; simp only [bO_some, bO_none, lO_some, lO_none, iB_t, iB_f, thn_nx, thn_rt, thn_bk, thn_ct, endOf_rt, endOf_nx, kLift_a, kOk_a, kO2_a, kIte_t, kIte_f, kIfe_t, kIfe_f, kCall_a, kArgs_a, kArgs2_a, kVals_a, kVals2_a, kOpd_a, kOpd2_a, kDat_a, kDat2_a, kBV_a, kBV2_tt, kBV2_ff, kBV2_tf, kBV2_ft, kBT_tt, kBT_ff, kBT_tf, kBT_ft, kComp_a, kSrc_a, kChain_a, kChain2_a, kChain3_t, kChain3_f, kSet_a, kPar_a, kUnp_a, kFor_a, gV_d, gV_dk, gO_d, gO_o, var_v, var_o, var_t, oV_d, oV_own, tV_d, tV_own, vB_s, oB_s, non_v, non_o, bl_v, bl_o, bl_t, int_v, int_o, str_v, str_o, glb_v, glb_o, tup_v, tup_o, lst_v, lst_o, bin_v, bin_o, bin_t, cmp_t, cmp_v, cmp_o, isN_t, isN_v, isi_t, isi_v, not_t, bop_v, bop_o, bop_t, ife_v, ife_o, idx_v, idx_o, slA_v, slA_o, slB_v, slB_o, call_v, call_o, call_t, callk_v, blt_v, blt_o, comp_v, comp_o, compIf_v, compIf_o, dict0_v, dict1_v, src_eq, rng1_v, zip_v, chain_t, as_nl, as_cs, ds_nl, ds_cs, os_nl, os_cs, vs_nl, vs_cs, es_nl, es_cs, bv_1, bv_2, bt_1, bt_2, s_nil, s_cons, s_set, s_setLc, s_par, s_unp, s_ite, s_loop, s_frz, s_app, rt_non, rt_bl, rt_int, rt_str, rt_glb, rt_tup, rt_lst, rt_bin, rt_cmp, rt_chain, rt_isN, rt_not, rt_bop, rt_ife, rt_idx, rt_slA, rt_slB, rt_call, rt_callk, rt_blt, rt_comp, rt_compIf, rt_isi, gR_s, rt_var, DV.dat, DV.fz, List.getElem?_cons_zero, List.getElem?_cons_succ, List.set_cons_zero, List.set_cons_succ, Option.map_some, Option.map_none, Option.bind_some, Option.bind_none, List.any_cons, List.any_nil, Bool.or_false, Bool.false_or, Bool.or_true, Bool.true_or, Bool.not_true, Bool.not_false, isTy, bltD, blt1, blt2, truthD, intD, setAll, setMany]; rfl
        · rw [J_rs]
          simp only [bO_some, bO_none, lO_some, lO_none, iB_t, iB_f, thn_nx, thn_rt, thn_bk, thn_ct, endOf_rt, endOf_nx, kLift_a, kOk_a, kO2_a, kIte_t, kIte_f, kIfe_t, kIfe_f, kCall_a, kArgs_a, kArgs2_a, kVals_a, kVals2_a, kOpd_a, kOpd2_a, kDat_a, kDat2_a, kBV_a, kBV2_tt, kBV2_ff, kBV2_tf, kBV2_ft, kBT_tt, kBT_ff, kBT_tf, kBT_ft, kComp_a, kSrc_a, kChain_a, kChain2_a, kChain3_t, kChain3_f, kSet_a, kPar_a, kUnp_a, kFor_a, gV_d, gV_dk, gO_d, gO_o, var_v, var_o, var_t, oV_d, oV_own, tV_d, tV_own, vB_s, oB_s, non_v, non_o, bl_v, bl_o, bl_t, int_v, int_o, str_v, str_o, glb_v, glb_o, tup_v, tup_o, lst_v, lst_o, bin_v, bin_o, bin_t, cmp_t, cmp_v, cmp_o, isN_t, isN_v, isi_t, isi_v, not_t, bop_v, bop_o, bop_t, ife_v, ife_o, idx_v, idx_o, slA_v, slA_o, slB_v, slB_o, call_v, call_o, call_t, callk_v, blt_v, blt_o, comp_v, comp_o, compIf_v, compIf_o, dict0_v, dict1_v, src_eq, rng1_v, zip_v, chain_t, as_nl, as_cs, ds_nl, ds_cs, os_nl, os_cs, vs_nl, vs_cs, es_nl, es_cs, bv_1, bv_2, bt_1, bt_2, s_nil, s_cons, s_set, s_setLc, s_par, s_unp, s_ite, s_loop, s_frz, s_app, rt_non, rt_bl, rt_int, rt_str, rt_glb, rt_tup, rt_lst, rt_bin, rt_cmp, rt_chain, rt_isN, rt_not, rt_bop, rt_ife, rt_idx, rt_slA, rt_slB, rt_call, rt_callk, rt_blt, rt_comp, rt_compIf, rt_isi, gR_s, rt_var, DV.dat, DV.fz, List.getElem?_cons_zero, List.getElem?_cons_succ, List.set_cons_zero, List.set_cons_succ, Option.map_some, Option.map_none, Option.bind_some, Option.bind_none, List.any_cons, List.any_nil, Bool.or_false, Bool.false_or, Bool.or_true, Bool.true_or, Bool.not_true, Bool.not_false, isTy, bltD, blt1, blt2, truthD, intD, setAll, setMany, i0, i1, neS, eqS, beq_eq_false_iff_ne.mpr setrow.symm]
          rfl
        · rw [J_rs]
          simp only [bO_some, bO_none, lO_some, lO_none, iB_t, iB_f, thn_nx, thn_rt, thn_bk, thn_ct, endOf_rt, endOf_nx, kLift_a, kOk_a, kO2_a, kIte_t, kIte_f, kIfe_t, kIfe_f, kCall_a, kArgs_a, kArgs2_a, kVals_a, kVals2_a, kOpd_a, kOpd2_a, kDat_a, kDat2_a, kBV_a, kBV2_tt, kBV2_ff, kBV2_tf, kBV2_ft, kBT_tt, kBT_ff, kBT_tf, kBT_ft, kComp_a, kSrc_a, kChain_a, kChain2_a, kChain3_t, kChain3_f, kSet_a, kPar_a, kUnp_a, kFor_a, gV_d, gV_dk, gO_d, gO_o, var_v, var_o, var_t, oV_d, oV_own, tV_d, tV_own, vB_s, oB_s, non_v, non_o, bl_v, bl_o, bl_t, int_v, int_o, str_v, str_o, glb_v, glb_o, tup_v, tup_o, lst_v, lst_o, bin_v, bin_o, bin_t, cmp_t, cmp_v, cmp_o, isN_t, isN_v, isi_t, isi_v, not_t, bop_v, bop_o, bop_t, ife_v, ife_o, idx_v, idx_o, slA_v, slA_o, slB_v, slB_o, call_v, call_o, call_t, callk_v, blt_v, blt_o, comp_v, comp_o, compIf_v, compIf_o, dict0_v, dict1_v, src_eq, rng1_v, zip_v, chain_t, as_nl, as_cs, ds_nl, ds_cs, os_nl, os_cs, vs_nl, vs_cs, es_nl, es_cs, bv_1, bv_2, bt_1, bt_2, s_nil, s_cons, s_set, s_setLc, s_par, s_unp, s_ite, s_loop, s_frz, s_app, rt_non, rt_bl, rt_int, rt_str, rt_glb, rt_tup, rt_lst, rt_bin, rt_cmp, rt_chain, rt_isN, rt_not, rt_bop, rt_ife, rt_idx, rt_slA, rt_slB, rt_call, rt_callk, rt_blt, rt_comp, rt_compIf, rt_isi, gR_s, rt_var, DV.dat, DV.fz, List.getElem?_cons_zero, List.getElem?_cons_succ, List.set_cons_zero, List.set_cons_succ, Option.map_some, Option.map_none, Option.bind_some, Option.bind_none, List.any_cons, List.any_nil, Bool.or_false, Bool.false_or, Bool.or_true, Bool.true_or, Bool.not_true, Bool.not_false, isTy, bltD, blt1, blt2, truthD, intD, setAll, setMany, i0, i1, neS, eqS, beq_eq_false_iff_ne.mpr setrow.symm]
          rfl
        · rw [J_rw, he]
          simp only [bO_some, bO_none, lO_some, lO_none, iB_t, iB_f, thn_nx, thn_rt, thn_bk, thn_ct, endOf_rt, endOf_nx, kLift_a, kOk_a, kO2_a, kIte_t, kIte_f, kIfe_t, kIfe_f, kCall_a, kArgs_a, kArgs2_a, kVals_a, kVals2_a, kOpd_a, kOpd2_a, kDat_a, kDat2_a, kBV_a, kBV2_tt, kBV2_ff, kBV2_tf, kBV2_ft, kBT_tt, kBT_ff, kBT_tf, kBT_ft, kComp_a, kSrc_a, kChain_a, kChain2_a, kChain3_t, kChain3_f, kSet_a, kPar_a, kUnp_a, kFor_a, gV_d, gV_dk, gO_d, gO_o, var_v, var_o, var_t, oV_d, oV_own, tV_d, tV_own, vB_s, oB_s, non_v, non_o, bl_v, bl_o, bl_t, int_v, int_o, str_v, str_o, glb_v, glb_o, tup_v, tup_o, lst_v, lst_o, bin_v, bin_o, bin_t, cmp_t, cmp_v, cmp_o, isN_t, isN_v, isi_t, isi_v, not_t, bop_v, bop_o, bop_t, ife_v, ife_o, idx_v, idx_o, slA_v, slA_o, slB_v, slB_o, call_v, call_o, call_t, callk_v, blt_v, blt_o, comp_v, comp_o, compIf_v, compIf_o, dict0_v, dict1_v, src_eq, rng1_v, zip_v, chain_t, as_nl, as_cs, ds_nl, ds_cs, os_nl, os_cs, vs_nl, vs_cs, es_nl, es_cs, bv_1, bv_2, bt_1, bt_2, s_nil, s_cons, s_set, s_setLc, s_par, s_unp, s_ite, s_loop, s_frz, s_app, rt_non, rt_bl, rt_int, rt_str, rt_glb, rt_tup, rt_lst, rt_bin, rt_cmp, rt_chain, rt_isN, rt_not, rt_bop, rt_ife, rt_idx, rt_slA, rt_slB, rt_call, rt_callk, rt_blt, rt_comp, rt_compIf, rt_isi, gR_s, rt_var, DV.dat, DV.fz, List.getElem?_cons_zero, List.getElem?_cons_succ, List.set_cons_zero, List.set_cons_succ, Option.map_some, Option.map_none, Option.bind_some, Option.bind_none, List.any_cons, List.any_nil, Bool.or_false, Bool.false_or, Bool.or_true, Bool.true_or, Bool.not_true, Bool.not_false, isTy, bltD, blt1, blt2, truthD, intD, setAll, setMany, i0, i1, neS, eqS, beq_self_eq_true, beq_eq_false_iff_ne.mpr setrow.symm, lenB, lenD, neLen, Bool.false_eq_true, if_false]
          by_cases hl : es.length = es'.length
          · have cm := comp_map2 (i := 4) (j := 6) (e := (evA (CX n) b12_1).v) (f := fun x y => .list (lst1 (J m x y))) (ρ := [some (.d (Rw es)), some (.d (Rw es')), some (.d (.tuple es)), some (.d (.tuple es')), none, none, none]) (k := k) es es' fun x hx' y hy' => by
              refine ⟨.own (lst1 (J m x y)), ?_, rfl⟩
              have := ih x y (e3 x hx') (f3 y hy')
              simp only [b12_1, bO_some, bO_none, lO_some, lO_none, iB_t, iB_f, thn_nx, thn_rt, thn_bk, thn_ct, endOf_rt, endOf_nx, kLift_a, kOk_a, kO2_a, kIte_t, kIte_f, kIfe_t, kIfe_f, kCall_a, kArgs_a, kArgs2_a, kVals_a, kVals2_a, kOpd_a, kOpd2_a, kDat_a, kDat2_a, kBV_a, kBV2_tt, kBV2_ff, kBV2_tf, kBV2_ft, kBT_tt, kBT_ff, kBT_tf, kBT_ft, kComp_a, kSrc_a, kChain_a, kChain2_a, kChain3_t, kChain3_f, kSet_a, kPar_a, kUnp_a, kFor_a, gV_d, gV_dk, gO_d, gO_o, var_v, var_o, var_t, oV_d, oV_own, tV_d, tV_own, vB_s, oB_s, non_v, non_o, bl_v, bl_o, bl_t, int_v, int_o, str_v, str_o, glb_v, glb_o, tup_v, tup_o, lst_v, lst_o, bin_v, bin_o, bin_t, cmp_t, cmp_v, cmp_o, isN_t, isN_v, isi_t, isi_v, not_t, bop_v, bop_o, bop_t, ife_v, ife_o, idx_v, idx_o, slA_v, slA_o, slB_v, slB_o, call_v, call_o, call_t, callk_v, blt_v, blt_o, comp_v, comp_o, compIf_v, compIf_o, dict0_v, dict1_v, src_eq, rng1_v, zip_v, chain_t, as_nl, as_cs, ds_nl, ds_cs, os_nl, os_cs, vs_nl, vs_cs, es_nl, es_cs, bv_1, bv_2, bt_1, bt_2, s_nil, s_cons, s_set, s_setLc, s_par, s_unp, s_ite, s_loop, s_frz, s_app, rt_non, rt_bl, rt_int, rt_str, rt_glb, rt_tup, rt_lst, rt_bin, rt_cmp, rt_chain, rt_isN, rt_not, rt_bop, rt_ife, rt_idx, rt_slA, rt_slB, rt_call, rt_callk, rt_blt, rt_comp, rt_compIf, rt_isi, gR_s, rt_var, DV.dat, DV.fz, List.getElem?_cons_zero, List.getElem?_cons_succ, List.set_cons_zero, List.set_cons_succ, Option.map_some, Option.map_none, Option.bind_some, Option.bind_none, List.any_cons, List.any_nil, Bool.or_false, Bool.false_or, Bool.or_true, Bool.true_or, Bool.not_true, Bool.not_false, isTy, bltD, blt1, blt2, truthD, intD, setAll, setMany, wipeE, this]
            obtain ⟨z1, z2, z3⟩ := notInNil (f := J m) (m := 2 * m) es es' (fun x hx' y hy' c h => (J_kd (e3 x hx') (f3 y hy') h).nice) hl
            simp only [bO_some, bO_none, lO_some, lO_none, iB_t, iB_f, thn_nx, thn_rt, thn_bk, thn_ct, endOf_rt, endOf_nx, kLift_a, kOk_a, kO2_a, kIte_t, kIte_f, kIfe_t, kIfe_f, kCall_a, kArgs_a, kArgs2_a, kVals_a, kVals2_a, kOpd_a, kOpd2_a, kDat_a, kDat2_a, kBV_a, kBV2_tt, kBV2_ff, kBV2_tf, kBV2_ft, kBT_tt, kBT_ff, kBT_tf, kBT_ft, kComp_a, kSrc_a, kChain_a, kChain2_a, kChain3_t, kChain3_f, kSet_a, kPar_a, kUnp_a, kFor_a, gV_d, gV_dk, gO_d, gO_o, var_v, var_o, var_t, oV_d, oV_own, tV_d, tV_own, vB_s, oB_s, non_v, non_o, bl_v, bl_o, bl_t, int_v, int_o, str_v, str_o, glb_v, glb_o, tup_v, tup_o, lst_v, lst_o, bin_v, bin_o, bin_t, cmp_t, cmp_v, cmp_o, isN_t, isN_v, isi_t, isi_v, not_t, bop_v, bop_o, bop_t, ife_v, ife_o, idx_v, idx_o, slA_v, slA_o, slB_v, slB_o, call_v, call_o, call_t, callk_v, blt_v, blt_o, comp_v, comp_o, compIf_v, compIf_o, dict0_v, dict1_v, src_eq, rng1_v, zip_v, chain_t, as_nl, as_cs, ds_nl, ds_cs, os_nl, os_cs, vs_nl, vs_cs, es_nl, es_cs, bv_1, bv_2, bt_1, bt_2, s_nil, s_cons, s_set, s_setLc, s_par, s_unp, s_ite, s_loop, s_frz, s_app, rt_non, rt_bl, rt_int, rt_str, rt_glb, rt_tup, rt_lst, rt_bin, rt_cmp, rt_chain, rt_isN, rt_not, rt_bop, rt_ife, rt_idx, rt_slA, rt_slB, rt_call, rt_callk, rt_blt, rt_comp, rt_compIf, rt_isi, gR_s, rt_var, DV.dat, DV.fz, List.getElem?_cons_zero, List.getElem?_cons_succ, List.set_cons_zero, List.set_cons_succ, Option.map_some, Option.map_none, Option.bind_some, Option.bind_none, List.any_cons, List.any_nil, Bool.or_false, Bool.false_or, Bool.or_true, Bool.true_or, Bool.not_true, Bool.not_false, isTy, bltD, blt1, blt2, truthD, intD, setAll, setMany, hl, decide_true, zipT hl, itemsD, srcL_ok (pairs_le e2), cm, notIn_ok z3 (by omega), z1, if_true]
            cases hj : Jl (J m) es es' with
            | none => simp only [bO_some, bO_none, lO_some, lO_none, iB_t, iB_f, thn_nx, thn_rt, thn_bk, thn_ct, endOf_rt, endOf_nx, kLift_a, kOk_a, kO2_a, kIte_t, kIte_f, kIfe_t, kIfe_f, kCall_a, kArgs_a, kArgs2_a, kVals_a, kVals2_a, kOpd_a, kOpd2_a, kDat_a, kDat2_a, kBV_a, kBV2_tt, kBV2_ff, kBV2_tf, kBV2_ft, kBT_tt, kBT_ff, kBT_tf, kBT_ft, kComp_a, kSrc_a, kChain_a, kChain2_a, kChain3_t, kChain3_f, kSet_a, kPar_a, kUnp_a, kFor_a, gV_d, gV_dk, gO_d, gO_o, var_v, var_o, var_t, oV_d, oV_own, tV_d, tV_own, vB_s, oB_s, non_v, non_o, bl_v, bl_o, bl_t, int_v, int_o, str_v, str_o, glb_v, glb_o, tup_v, tup_o, lst_v, lst_o, bin_v, bin_o, bin_t, cmp_t, cmp_v, cmp_o, isN_t, isN_v, isi_t, isi_v, not_t, bop_v, bop_o, bop_t, ife_v, ife_o, idx_v, idx_o, slA_v, slA_o, slB_v, slB_o, call_v, call_o, call_t, callk_v, blt_v, blt_o, comp_v, comp_o, compIf_v, compIf_o, dict0_v, dict1_v, src_eq, rng1_v, zip_v, chain_t, as_nl, as_cs, ds_nl, ds_cs, os_nl, os_cs, vs_nl, vs_cs, es_nl, es_cs, bv_1, bv_2, bt_1, bt_2, s_nil, s_cons, s_set, s_setLc, s_par, s_unp, s_ite, s_loop, s_frz, s_app, rt_non, rt_bl, rt_int, rt_str, rt_glb, rt_tup, rt_lst, rt_bin, rt_cmp, rt_chain, rt_isN, rt_not, rt_bop, rt_ife, rt_idx, rt_slA, rt_slB, rt_call, rt_callk, rt_blt, rt_comp, rt_compIf, rt_isi, gR_s, rt_var, DV.dat, DV.fz, List.getElem?_cons_zero, List.getElem?_cons_succ, List.set_cons_zero, List.set_cons_succ, Option.map_some, Option.map_none, Option.bind_some, Option.bind_none, List.any_cons, List.any_nil, Bool.or_false, Bool.false_or, Bool.or_true, Bool.true_or, Bool.not_true, Bool.not_false, isTy, bltD, blt1, blt2, truthD, intD, setAll, setMany, Option.isNone_none, Option.map_none, lst1]
            | some zs =>
              have len := Jl_len hl hj
              have hs : (zs.map fun z => PyData.list [z]).length ≤ sizeLine := by
                have : (4 : Nat) ≤ sizeLine := by decide
                rw [List.length_map]; omega
              have c2 := comp_map (tg := 4) (e := (evA (CX n) b12_2).v) (f := fun x => match x with | .list [z] => z | _ => .none) (ρ := [some (.d (Rw es)), some (.d (Rw es')), some (.d (.tuple es)), some (.d (.tuple es')), none, some (.d (.list (zs.map fun z => PyData.list [z]))), none]) (k := k) (zs.map fun z => PyData.list [z]) fun x hx' => by
                obtain ⟨z, _, rfl⟩ := List.mem_map.mp hx'
                have e0 : idxV (.list [z]) (.int 0) = some (.d z) := rfl
                simp only [b12_2, bO_some, bO_none, lO_some, lO_none, iB_t, iB_f, thn_nx, thn_rt, thn_bk, thn_ct, endOf_rt, endOf_nx, kLift_a, kOk_a, kO2_a, kIte_t, kIte_f, kIfe_t, kIfe_f, kCall_a, kArgs_a, kArgs2_a, kVals_a, kVals2_a, kOpd_a, kOpd2_a, kDat_a, kDat2_a, kBV_a, kBV2_tt, kBV2_ff, kBV2_tf, kBV2_ft, kBT_tt, kBT_ff, kBT_tf, kBT_ft, kComp_a, kSrc_a, kChain_a, kChain2_a, kChain3_t, kChain3_f, kSet_a, kPar_a, kUnp_a, kFor_a, gV_d, gV_dk, gO_d, gO_o, var_v, var_o, var_t, oV_d, oV_own, tV_d, tV_own, vB_s, oB_s, non_v, non_o, bl_v, bl_o, bl_t, int_v, int_o, str_v, str_o, glb_v, glb_o, tup_v, tup_o, lst_v, lst_o, bin_v, bin_o, bin_t, cmp_t, cmp_v, cmp_o, isN_t, isN_v, isi_t, isi_v, not_t, bop_v, bop_o, bop_t, ife_v, ife_o, idx_v, idx_o, slA_v, slA_o, slB_v, slB_o, call_v, call_o, call_t, callk_v, blt_v, blt_o, comp_v, comp_o, compIf_v, compIf_o, dict0_v, dict1_v, src_eq, rng1_v, zip_v, chain_t, as_nl, as_cs, ds_nl, ds_cs, os_nl, os_cs, vs_nl, vs_cs, es_nl, es_cs, bv_1, bv_2, bt_1, bt_2, s_nil, s_cons, s_set, s_setLc, s_par, s_unp, s_ite, s_loop, s_frz, s_app, rt_non, rt_bl, rt_int, rt_str, rt_glb, rt_tup, rt_lst, rt_bin, rt_cmp, rt_chain, rt_isN, rt_not, rt_bop, rt_ife, rt_idx, rt_slA, rt_slB, rt_call, rt_callk, rt_blt, rt_comp, rt_compIf, rt_isi, gR_s, rt_var, DV.dat, DV.fz, List.getElem?_cons_zero, List.getElem?_cons_succ, List.set_cons_zero, List.set_cons_succ, Option.map_some, Option.map_none, Option.bind_some, Option.bind_none, List.any_cons, List.any_nil, Bool.or_false, Bool.false_or, Bool.or_true, Bool.true_or, Bool.not_true, Bool.not_false, isTy, bltD, blt1, blt2, truthD, intD, setAll, setMany, wipeE, e0]
              rw [List.map_map] at c2
              rw [z2 zs hj]
              simp only [bO_some, bO_none, lO_some, lO_none, iB_t, iB_f, thn_nx, thn_rt, thn_bk, thn_ct, endOf_rt, endOf_nx, kLift_a, kOk_a, kO2_a, kIte_t, kIte_f, kIfe_t, kIfe_f, kCall_a, kArgs_a, kArgs2_a, kVals_a, kVals2_a, kOpd_a, kOpd2_a, kDat_a, kDat2_a, kBV_a, kBV2_tt, kBV2_ff, kBV2_tf, kBV2_ft, kBT_tt, kBT_ff, kBT_tf, kBT_ft, kComp_a, kSrc_a, kChain_a, kChain2_a, kChain3_t, kChain3_f, kSet_a, kPar_a, kUnp_a, kFor_a, gV_d, gV_dk, gO_d, gO_o, var_v, var_o, var_t, oV_d, oV_own, tV_d, tV_own, vB_s, oB_s, non_v, non_o, bl_v, bl_o, bl_t, int_v, int_o, str_v, str_o, glb_v, glb_o, tup_v, tup_o, lst_v, lst_o, bin_v, bin_o, bin_t, cmp_t, cmp_v, cmp_o, isN_t, isN_v, isi_t, isi_v, not_t, bop_v, bop_o, bop_t, ife_v, ife_o, idx_v, idx_o, slA_v, slA_o, slB_v, slB_o, call_v, call_o, call_t, callk_v, blt_v, blt_o, comp_v, comp_o, compIf_v, compIf_o, dict0_v, dict1_v, src_eq, rng1_v, zip_v, chain_t, as_nl, as_cs, ds_nl, ds_cs, os_nl, os_cs, vs_nl, vs_cs, es_nl, es_cs, bv_1, bv_2, bt_1, bt_2, s_nil, s_cons, s_set, s_setLc, s_par, s_unp, s_ite, s_loop, s_frz, s_app, rt_non, rt_bl, rt_int, rt_str, rt_glb, rt_tup, rt_lst, rt_bin, rt_cmp, rt_chain, rt_isN, rt_not, rt_bop, rt_ife, rt_idx, rt_slA, rt_slB, rt_call, rt_callk, rt_blt, rt_comp, rt_compIf, rt_isi, gR_s, rt_var, DV.dat, DV.fz, List.getElem?_cons_zero, List.getElem?_cons_succ, List.set_cons_zero, List.set_cons_succ, Option.map_some, Option.map_none, Option.bind_some, Option.bind_none, List.any_cons, List.any_nil, Bool.or_false, Bool.false_or, Bool.or_true, Bool.true_or, Bool.not_true, Bool.not_false, isTy, bltD, blt1, blt2, truthD, intD, setAll, setMany, Option.isNone_some, itemsD, srcL_ok hs, c2, tupB_l, Option.map_some, lst1]
              rw [show List.map ((fun x => match x with | .list [z] => z | _ => .none) ∘ fun z => PyData.list [z]) zs = zs from List.map_id zs]
          · simp only [bO_some, bO_none, lO_some, lO_none, iB_t, iB_f, thn_nx, thn_rt, thn_bk, thn_ct, endOf_rt, endOf_nx, kLift_a, kOk_a, kO2_a, kIte_t, kIte_f, kIfe_t, kIfe_f, kCall_a, kArgs_a, kArgs2_a, kVals_a, kVals2_a, kOpd_a, kOpd2_a, kDat_a, kDat2_a, kBV_a, kBV2_tt, kBV2_ff, kBV2_tf, kBV2_ft, kBT_tt, kBT_ff, kBT_tf, kBT_ft, kComp_a, kSrc_a, kChain_a, kChain2_a, kChain3_t, kChain3_f, kSet_a, kPar_a, kUnp_a, kFor_a, gV_d, gV_dk, gO_d, gO_o, var_v, var_o, var_t, oV_d, oV_own, tV_d, tV_own, vB_s, oB_s, non_v, non_o, bl_v, bl_o, bl_t, int_v, int_o, str_v, str_o, glb_v, glb_o, tup_v, tup_o, lst_v, lst_o, bin_v, bin_o, bin_t, cmp_t, cmp_v, cmp_o, isN_t, isN_v, isi_t, isi_v, not_t, bop_v, bop_o, bop_t, ife_v, ife_o, idx_v, idx_o, slA_v, slA_o, slB_v, slB_o, call_v, call_o, call_t, callk_v, blt_v, blt_o, comp_v, comp_o, compIf_v, compIf_o, dict0_v, dict1_v, src_eq, rng1_v, zip_v, chain_t, as_nl, as_cs, ds_nl, ds_cs, os_nl, os_cs, vs_nl, vs_cs, es_nl, es_cs, bv_1, bv_2, bt_1, bt_2, s_nil, s_cons, s_set, s_setLc, s_par, s_unp, s_ite, s_loop, s_frz, s_app, rt_non, rt_bl, rt_int, rt_str, rt_glb, rt_tup, rt_lst, rt_bin, rt_cmp, rt_chain, rt_isN, rt_not, rt_bop, rt_ife, rt_idx, rt_slA, rt_slB, rt_call, rt_callk, rt_blt, rt_comp, rt_compIf, rt_isi, gR_s, rt_var, DV.dat, DV.fz, List.getElem?_cons_zero, List.getElem?_cons_succ, List.set_cons_zero, List.set_cons_succ, Option.map_some, Option.map_none, Option.bind_some, Option.bind_none, List.any_cons, List.any_nil, Bool.or_false, Bool.false_or, Bool.or_true, Bool.true_or, Bool.not_true, Bool.not_false, isTy, bltD, blt1, blt2, truthD, intD, setAll, setMany, hl, decide_false, if_false]
            rfl
end K06

set_option maxHeartbeats 4000000
/-! k06: what is drawn. -/
namespace K06
open PySem TA TM
theorem lt50 {c : Int} (h : c < 1000000000) : c < 2 ^ 50 := Int.lt_trans h (by decide +kernel)
theorem draw (n : Nat) (c : Int) (q : Dk) (m : Int) (hm : 0 < m) (h2 : m < 1073741824) (h : DkOk c q) (hc : c < 1000000000) : ∃ r q', callD Pg (n + 1) 6 [.dk, .d (.int m)] (some q) = some (.d (.int r), some q') ∧ 0 ≤ r ∧ r < m ∧ DkOk (c + 1) q' := by
  obtain ⟨r, q', h1, h3, h4, h5⟩ := draw_ok (CX n) c q m hm h2 h (lt50 hc)
  refine ⟨r, q', ?_, h3, h4, h5⟩
  show endOf (evSs (CX n) drawB [some .dk, some (.d (.int m)), none, none] (some q)) = _
  rw [h1]; rfl
theorem drawN (n : Nat) (c : Int) (q : Dk) (m : Nat) (hm : 0 < m) (h2 : m < 1073741824) (h : DkOk c q) (hc : c < 1000000000) : ∃ (r : Nat) (q' : Dk), callD Pg (n + 1) 6 [.dk, .d (.int m)] (some q) = some (.d (.int r), some q') ∧ r < m ∧ DkOk (c + 1) q' := by
  obtain ⟨r, q', h1, h3, h4, h5⟩ := draw n c q m (by omega) (by omega) h hc
  refine ⟨r.toNat, q', ?_, by omega, h5⟩
  rw [h1, show ((r.toNat : Nat) : Int) = r by omega]
theorem atI_nat {xs : List PyData} {i : Nat} (h : i < xs.length) : L2.atI xs (i : Int) = some xs[i] := by
  have e : L2.ixN xs.length (i : Int) = some i := by
    unfold L2.ixN
    rw [if_pos (by omega), if_pos (by omega)]
    simp
  rw [L2.atI, e]
  simp [h]
theorem pick (n : Nat) (c : Int) (q : Dk) (xs : List PyData) (h0 : xs ≠ []) (h1 : xs.length < 1073741824) (h : DkOk c q) (hc : c < 1000000000) : ∃ x q', callD Pg (n + 2) 7 [.dk, .d (.list xs)] (some q) = some (.d x, some q') ∧ x ∈ xs ∧ DkOk (c + 1) q' := by
  have hp : 0 < xs.length := List.length_pos_iff.mpr h0
  obtain ⟨r, q', e1, e2, e3⟩ := drawN n c q xs.length hp h1 h hc
  refine ⟨xs[r], q', ?_, List.getElem_mem e2, e3⟩
  show endOf (evSs (CX (n + 1)) b7 [some .dk, some (.d (.list xs))] (some q)) = _
  unfold b7
  have ix : idxV (.list xs) (.int r) = some (.d xs[r]) := by
    simp only [idxV, idxD, atI_nat e2, Option.map_some]
  simp only [bO_some, bO_none, lO_some, lO_none, iB_t, iB_f, thn_nx, thn_rt, thn_bk, thn_ct, endOf_rt, endOf_nx, kLift_a, kOk_a, kO2_a, kIte_t, kIte_f, kIfe_t, kIfe_f, kCall_a, kArgs_a, kArgs2_a, kVals_a, kVals2_a, kOpd_a, kOpd2_a, kDat_a, kDat2_a, kBV_a, kBV2_tt, kBV2_ff, kBV2_tf, kBV2_ft, kBT_tt, kBT_ff, kBT_tf, kBT_ft, kComp_a, kSrc_a, kChain_a, kChain2_a, kChain3_t, kChain3_f, kSet_a, kPar_a, kUnp_a, kFor_a, gV_d, gV_dk, gO_d, gO_o, var_v, var_o, var_t, oV_d, oV_own, tV_d, tV_own, vB_s, oB_s, non_v, non_o, bl_v, bl_o, bl_t, int_v, int_o, str_v, str_o, glb_v, glb_o, tup_v, tup_o, lst_v, lst_o, bin_v, bin_o, bin_t, cmp_t, cmp_v, cmp_o, isN_t, isN_v, isi_t, isi_v, not_t, bop_v, bop_o, bop_t, ife_v, ife_o, idx_v, idx_o, slA_v, slA_o, slB_v, slB_o, call_v, call_o, call_t, callk_v, blt_v, blt_o, comp_v, comp_o, compIf_v, compIf_o, dict0_v, dict1_v, src_eq, rng1_v, zip_v, chain_t, as_nl, as_cs, ds_nl, ds_cs, os_nl, os_cs, vs_nl, vs_cs, es_nl, es_cs, bv_1, bv_2, bt_1, bt_2, s_nil, s_cons, s_set, s_setLc, s_par, s_unp, s_ite, s_loop, s_frz, s_app, rt_non, rt_bl, rt_int, rt_str, rt_glb, rt_tup, rt_lst, rt_bin, rt_cmp, rt_chain, rt_isN, rt_not, rt_bop, rt_ife, rt_idx, rt_slA, rt_slB, rt_call, rt_callk, rt_blt, rt_comp, rt_compIf, rt_isi, gR_s, rt_var, DV.dat, DV.fz, List.getElem?_cons_zero, List.getElem?_cons_succ, List.set_cons_zero, List.set_cons_succ, Option.map_some, Option.map_none, Option.bind_some, Option.bind_none, List.any_cons, List.any_nil, Bool.or_false, Bool.false_or, Bool.or_true, Bool.true_or, Bool.not_true, Bool.not_false, isTy, bltD, blt1, blt2, truthD, intD, setAll, setMany, lenB, lenD, e1, ix]
def BK (s r : Nat) : Int := 10 * 6 ^ (s + r)
theorem eqN {a : Nat} {b : Nat} : cmpD .Eq (.int a) (.int b) = some (decide (a = b)) := by
  simp [cmpD, SeqAt.shaped, PyData.canLay0, PyData.depth, PyData.eqv]
  by_cases h : a = b <;> simp [h] <;> omega
theorem isK_fuel : ∀ (n n' s r : Nat) (d : PyData), s + r < n → s + r < n' → isK n s r d = isK n' s r d
  | 0, _, _, _, _, h, _ => absurd h (Nat.not_lt_zero _)
  | _ + 1, 0, _, _, _, _, h => absurd h (Nat.not_lt_zero _)
  | n + 1, n' + 1, s, r, d, h, h' => by
    unfold isK
    split
    · rfl
    · rename_i w i
      by_cases hw : w = "set"
      · rw [if_pos hw, if_pos hw]
        by_cases hs : 0 < s
        · rw [isK_fuel n n' (s - 1) r i (by omega) (by omega)]
        · simp [hs]
      · rw [if_neg hw, if_neg hw]
        split
        · rename_i hr
          split
          · rename_i ks
            congr 1
            have e : isK n s (r - 1) = isK n' s (r - 1) := funext fun x => isK_fuel n n' s (r - 1) x (by omega) (by omega)
            rw [e]
          · rfl
        · rfl
    · rfl
/-- one call an item, the deck handed on -/
theorem comp_st {tg : Nat} {e : Cm DV} {ρ : TA.Env} {P : PyData → PyData → Prop} {B lim : Int} (hB : 0 ≤ B) : ∀ (xs : List PyData) (c : Int) (q : Dk), DkOk c q → c + xs.length * B ≤ lim →
    (∀ x ∈ xs, ∀ c q, DkOk c q → c + B ≤ lim → ∃ v d q', e ((wipeE ρ [tg]).set tg (some (.d x))) (some q) = some (v, some q') ∧ v.dat = some d ∧ P x d ∧ DkOk (c + B) q') →
    ∃ ds q', compL (.one tg) e (.ret true) xs ρ (some q) = some (ds, some q') ∧ ds.length = xs.length ∧ (∀ d ∈ ds, ∃ x ∈ xs, P x d) ∧ DkOk (c + xs.length * B) q'
  | [], c, q, hq, _, _ => ⟨[], q, rfl, rfl, by simp, hq.mono (by simp)⟩
  | x :: xs, c, q, hq, hl, h => by
    have hl' : c + B + xs.length * B ≤ lim := by
      have : ((x :: xs).length : Int) * B = xs.length * B + B := by rw [List.length_cons]; push_cast; rw [Int.add_mul]; omega
      omega
    have nn : (0 : Int) ≤ xs.length * B := Int.mul_nonneg (by omega) hB
    obtain ⟨v, d, q1, e1, e2, e3, e4⟩ := h x List.mem_cons_self c q hq (by omega)
    obtain ⟨ds, q2, f1, f2, f3, f4⟩ := comp_st hB xs (c + B) q1 e4 hl' fun y hy => h y (List.mem_cons_of_mem _ hy)
    refine ⟨d :: ds, q2, ?_, by simp [f2], fun z hz => ?_, f4.mono ?_⟩
    · rw [compL]
      simp only [setTg, Tg.slots]
      rw [show (Cm.ret true : Cm Bool) ((wipeE ρ [tg]).set tg (some (.d x))) (some q) = some (true, some q) from rfl]
      simp only [e1, e2, f1]
    · rcases List.mem_cons.mp hz with rfl | hz
      · exact ⟨x, List.mem_cons_self, e3⟩
      · obtain ⟨y, hy, hp⟩ := f3 z hz
        exact ⟨y, List.mem_cons_of_mem _ hy, hp⟩
    · have : ((x :: xs).length : Int) * B = xs.length * B + B := by rw [List.length_cons]; push_cast; rw [Int.add_mul]; omega
      omega
theorem rng_len {n : Nat} : (rngL 0 n).length = n := by simp [rngL]
theorem p62 : (4611686018427387904 : Int) = 2 ^ 62 := by decide +kernel
theorem rngV_ok {n : Nat} (h : n ≤ 100) : rngV (.int n) = some (.d (.list (rngL 0 n))) := by
  have h1 : (n : Int) ≤ 100 := by omega
  have h0 : (0 : Int) ≤ n := by omega
  have e : (rngOk (n : Int) && decide ((n : Int) ≤ 100000)) = true := by
    simp only [rngOk, Bool.and_eq_true, decide_eq_true_eq, ← p62]
    omega
  unfold rngV
  rw [show intD (.int n) = some (n : Int) from rfl, Option.bind_some, if_pos e, Int.toNat_natCast]
theorem in45 (r : Nat) : cmpD .In (.int r) (.tuple [.int 4, .int 5]) = some (decide (r = 4 ∨ r = 5)) := by
  have h4 : ((4 : Int) == (r : Int)) = decide (r = 4) := by rw [Bool.eq_iff_iff]; simp; omega
  have h5 : ((5 : Int) == (r : Int)) = decide (r = 5) := by rw [Bool.eq_iff_iff]; simp; omega
  simp only [cmpD, isFlat, List.all_cons, List.all_nil, Bool.and_self, if_true, List.any_cons, List.any_nil, PyData.eqv, h4, h5]
  congr 1
  by_cases a : r = 4 <;> by_cases b : r = 5 <;> simp [a, b]
theorem add1N {r : Nat} : binD .Add (.int 1) (.int r) = some (.d (.int ((1 + r : Nat) : Int))) := by
  simp only [binD]; push_cast; rfl
theorem isK_plain {n s r : Nat} {d : PyData} (h : d ∈ [PyData.str "truth", .str "number", .str "atom"]) (hn : 0 < n) : isK n s r d = true := by
  obtain ⟨m, rfl⟩ : ∃ m, n = m + 1 := ⟨n - 1, by omega⟩
  simp only [List.mem_cons, List.not_mem_nil, or_false] at h
  rcases h with rfl | rfl | rfl <;> simp [isK, pl]
theorem BK_pos (s r : Nat) : 10 ≤ BK s r := by
  unfold BK
  have : (1 : Int) ≤ 6 ^ (s + r) := by exact_mod_cast Nat.one_le_pow _ _ (by decide)
  omega
theorem BK_s (s r : Nat) (h : 0 < s) : BK s r = 6 * BK (s - 1) r := by
  unfold BK
  rw [show s + r = (s - 1 + r) + 1 by omega, Int.pow_succ]
  omega
theorem BK_r (s r : Nat) (h : 0 < r) : BK s r = 6 * BK s (r - 1) := by
  unfold BK
  rw [show s + r = (s + (r - 1)) + 1 by omega, Int.pow_succ]
  omega
/-- w == i and s > 0 -/
theorem andT {C : TA.Ctx} {a b : E} {ρ : TA.Env} {k : OD} {x y : Bool} (ha : (evA C a).t ρ k = some (x, k)) (hb : (evA C b).t ρ k = some (y, k)) : (evA C (.bop true (.cons a (.cons b .nil)))).t ρ k = some (x && y, k) := by
  cases x <;> simp only [bop_t, es_cs, es_nl, bt_2, bt_1, ha, hb, bO_some, kBT_tt, kBT_tf, Bool.true_and, Bool.false_and]
theorem kindg : ∀ (n s r : Nat) (c : Int) (q : Dk), s + r + 3 ≤ n → DkOk c q → c + BK s r < 1000000000 → ∃ d q', callD Pg n 8 [.dk, .d (.int s), .d (.int r)] (some q) = some (.d d, some q') ∧ (∀ m, s + r < m → isK m s r d = true) ∧ DkOk (c + BK s r) q'
  | 0, _, _, _, _, h, _, _ => by omega
  | n + 1, s, r, c, q, h, hq, hc => by
    have b0 := BK_pos s r
    have ih := kindg n
    obtain ⟨n, rfl⟩ : ∃ m, n = m + 2 := ⟨n - 2, by omega⟩
    obtain ⟨w, q1, e1, e2, e3⟩ := drawN (n + 1) c q 7 (by omega) (by omega) hq (by omega)
    have e1' : callD Pg (n + 2) 6 [.dk, .d (.int 7)] (some q) = some (.d (.int w), some q1) := e1
    have go : ∀ res, endOf (evSs (CX (n + 2)) b8 [some .dk, some (.d (.int s)), some (.d (.int r)), none, none] (some q)) = res → callD Pg (n + 3) 8 [.dk, .d (.int s), .d (.int r)] (some q) = res := fun _ h => h
    have plain : ∃ d q', callD Pg (n + 2) 7 [.dk, .d (.list [.str "truth", .str "number", .str "atom"])] (some q1) = some (.d d, some q') ∧ (∀ m, s + r < m → isK m s r d = true) ∧ DkOk (c + BK s r) q' := by
      obtain ⟨x, q', f1, f2, f3⟩ := pick n (c + 1) q1 [.str "truth", .str "number", .str "atom"] (by simp) (by simp) e3 (by omega)
      exact ⟨x, q', f1, fun m hm => isK_plain f2 (by omega), f3.mono (by omega)⟩
    have w3 : cmpD .Eq (.int w) (.int 3) = some (decide (w = 3)) := eqN
    have w6 : cmpD .Eq (.int w) (.int 6) = some (decide (w = 6)) := eqN
    by_cases h3 : w = 3 ∧ 0 < s
    · refine ⟨St .none, q1, go _ ?_, fun m hm => ?_, e3.mono (by omega)⟩
      · have d1 : decide (w = 3) = true := decide_eq_true h3.1
        have d2 : decide (0 < s) = true := decide_eq_true h3.2
        unfold b8
        simp only [bO_some, bO_none, lO_some, lO_none, iB_t, iB_f, thn_nx, thn_rt, thn_bk, thn_ct, endOf_rt, endOf_nx, kLift_a, kOk_a, kO2_a, kIte_t, kIte_f, kIfe_t, kIfe_f, kCall_a, kArgs_a, kArgs2_a, kVals_a, kVals2_a, kOpd_a, kOpd2_a, kDat_a, kDat2_a, kBV_a, kBV2_tt, kBV2_ff, kBV2_tf, kBV2_ft, kBT_tt, kBT_ff, kBT_tf, kBT_ft, kComp_a, kSrc_a, kChain_a, kChain2_a, kChain3_t, kChain3_f, kSet_a, kPar_a, kUnp_a, kFor_a, gV_d, gV_dk, gO_d, gO_o, var_v, var_o, var_t, oV_d, oV_own, tV_d, tV_own, vB_s, oB_s, non_v, non_o, bl_v, bl_o, bl_t, int_v, int_o, str_v, str_o, glb_v, glb_o, tup_v, tup_o, lst_v, lst_o, bin_v, bin_o, bin_t, cmp_t, cmp_v, cmp_o, isN_t, isN_v, isi_t, isi_v, not_t, bop_v, bop_o, bop_t, ife_v, ife_o, idx_v, idx_o, slA_v, slA_o, slB_v, slB_o, call_v, call_o, call_t, callk_v, blt_v, blt_o, comp_v, comp_o, compIf_v, compIf_o, dict0_v, dict1_v, src_eq, rng1_v, zip_v, chain_t, as_nl, as_cs, ds_nl, ds_cs, os_nl, os_cs, vs_nl, vs_cs, es_nl, es_cs, bv_1, bv_2, bt_1, bt_2, s_nil, s_cons, s_set, s_setLc, s_par, s_unp, s_ite, s_loop, s_frz, s_app, rt_non, rt_bl, rt_int, rt_str, rt_glb, rt_tup, rt_lst, rt_bin, rt_cmp, rt_chain, rt_isN, rt_not, rt_bop, rt_ife, rt_idx, rt_slA, rt_slB, rt_call, rt_callk, rt_blt, rt_comp, rt_compIf, rt_isi, gR_s, rt_var, DV.dat, DV.fz, List.getElem?_cons_zero, List.getElem?_cons_succ, List.set_cons_zero, List.set_cons_succ, Option.map_some, Option.map_none, Option.bind_some, Option.bind_none, List.any_cons, List.any_nil, Bool.or_false, Bool.false_or, Bool.or_true, Bool.true_or, Bool.not_true, Bool.not_false, isTy, bltD, blt1, blt2, truthD, intD, setAll, setMany, e1', w3, d1, d2, gt0]
      · obtain ⟨m, rfl⟩ : ∃ k, m = k + 1 := ⟨m - 1, by omega⟩
        simp [isK, h3.2, isNone]
    · by_cases h45 : (w = 4 ∨ w = 5) ∧ 0 < s
      · obtain ⟨d, q', f1, f2, f3⟩ := ih (s - 1) r (c + 1) q1 (by omega) e3 (by have := BK_s s r h45.2; have := BK_pos (s - 1) r; omega)
        refine ⟨St d, q', go _ ?_, fun m hm => ?_, f3.mono (by have := BK_s s r h45.2; have := BK_pos (s - 1) r; omega)⟩
        · have d1 : decide (w = 3) = false := decide_eq_false (by omega)
          have d2 : decide (0 < s) = true := decide_eq_true h45.2
          have d3 : decide (w = 4 ∨ w = 5) = true := decide_eq_true h45.1
          unfold b8
          simp only [bO_some, bO_none, lO_some, lO_none, iB_t, iB_f, thn_nx, thn_rt, thn_bk, thn_ct, endOf_rt, endOf_nx, kLift_a, kOk_a, kO2_a, kIte_t, kIte_f, kIfe_t, kIfe_f, kCall_a, kArgs_a, kArgs2_a, kVals_a, kVals2_a, kOpd_a, kOpd2_a, kDat_a, kDat2_a, kBV_a, kBV2_tt, kBV2_ff, kBV2_tf, kBV2_ft, kBT_tt, kBT_ff, kBT_tf, kBT_ft, kComp_a, kSrc_a, kChain_a, kChain2_a, kChain3_t, kChain3_f, kSet_a, kPar_a, kUnp_a, kFor_a, gV_d, gV_dk, gO_d, gO_o, var_v, var_o, var_t, oV_d, oV_own, tV_d, tV_own, vB_s, oB_s, non_v, non_o, bl_v, bl_o, bl_t, int_v, int_o, str_v, str_o, glb_v, glb_o, tup_v, tup_o, lst_v, lst_o, bin_v, bin_o, bin_t, cmp_t, cmp_v, cmp_o, isN_t, isN_v, isi_t, isi_v, not_t, bop_v, bop_o, bop_t, ife_v, ife_o, idx_v, idx_o, slA_v, slA_o, slB_v, slB_o, call_v, call_o, call_t, callk_v, blt_v, blt_o, comp_v, comp_o, compIf_v, compIf_o, dict0_v, dict1_v, src_eq, rng1_v, zip_v, chain_t, as_nl, as_cs, ds_nl, ds_cs, os_nl, os_cs, vs_nl, vs_cs, es_nl, es_cs, bv_1, bv_2, bt_1, bt_2, s_nil, s_cons, s_set, s_setLc, s_par, s_unp, s_ite, s_loop, s_frz, s_app, rt_non, rt_bl, rt_int, rt_str, rt_glb, rt_tup, rt_lst, rt_bin, rt_cmp, rt_chain, rt_isN, rt_not, rt_bop, rt_ife, rt_idx, rt_slA, rt_slB, rt_call, rt_callk, rt_blt, rt_comp, rt_compIf, rt_isi, gR_s, rt_var, DV.dat, DV.fz, List.getElem?_cons_zero, List.getElem?_cons_succ, List.set_cons_zero, List.set_cons_succ, Option.map_some, Option.map_none, Option.bind_some, Option.bind_none, List.any_cons, List.any_nil, Bool.or_false, Bool.false_or, Bool.or_true, Bool.true_or, Bool.not_true, Bool.not_false, isTy, bltD, blt1, blt2, truthD, intD, setAll, setMany, e1', w3, d1, d2, d3, in45, gt0, sub1 h45.2, f1]
        · obtain ⟨m, rfl⟩ : ∃ k, m = k + 1 := ⟨m - 1, by omega⟩
          simp [isK, h45.2, f2 m (by omega)]
      · have d3 : (decide (w = 3) && decide (0 < s)) = false := by
          rw [Bool.and_eq_false_iff]; simp only [decide_eq_false_iff_not]; omega
        have d4 : (decide (w = 4 ∨ w = 5) && decide (0 < s)) = false := by
          rw [Bool.and_eq_false_iff]; simp only [decide_eq_false_iff_not]; omega
        have t3 : ∀ ρ : TA.Env, ρ[3]? = some (some (.d (.int w))) → ρ[1]? = some (some (.d (.int s))) → (evA (CX (n + 2)) (.bop true (.cons (.cmp .Eq (.var 3) (.int 3)) (.cons (.cmp .Gt (.var 1) (.int 0)) .nil)))).t ρ (some q1) = some (false, some q1) := fun ρ h h' => by
          rw [andT (x := decide (w = 3)) (y := decide (0 < s)), d3]
          · simp only [bO_some, bO_none, lO_some, lO_none, iB_t, iB_f, thn_nx, thn_rt, thn_bk, thn_ct, endOf_rt, endOf_nx, kLift_a, kOk_a, kO2_a, kIte_t, kIte_f, kIfe_t, kIfe_f, kCall_a, kArgs_a, kArgs2_a, kVals_a, kVals2_a, kOpd_a, kOpd2_a, kDat_a, kDat2_a, kBV_a, kBV2_tt, kBV2_ff, kBV2_tf, kBV2_ft, kBT_tt, kBT_ff, kBT_tf, kBT_ft, kComp_a, kSrc_a, kChain_a, kChain2_a, kChain3_t, kChain3_f, kSet_a, kPar_a, kUnp_a, kFor_a, gV_d, gV_dk, gO_d, gO_o, var_v, var_o, var_t, oV_d, oV_own, tV_d, tV_own, vB_s, oB_s, non_v, non_o, bl_v, bl_o, bl_t, int_v, int_o, str_v, str_o, glb_v, glb_o, tup_v, tup_o, lst_v, lst_o, bin_v, bin_o, bin_t, cmp_t, cmp_v, cmp_o, isN_t, isN_v, isi_t, isi_v, not_t, bop_v, bop_o, bop_t, ife_v, ife_o, idx_v, idx_o, slA_v, slA_o, slB_v, slB_o, call_v, call_o, call_t, callk_v, blt_v, blt_o, comp_v, comp_o, compIf_v, compIf_o, dict0_v, dict1_v, src_eq, rng1_v, zip_v, chain_t, as_nl, as_cs, ds_nl, ds_cs, os_nl, os_cs, vs_nl, vs_cs, es_nl, es_cs, bv_1, bv_2, bt_1, bt_2, s_nil, s_cons, s_set, s_setLc, s_par, s_unp, s_ite, s_loop, s_frz, s_app, rt_non, rt_bl, rt_int, rt_str, rt_glb, rt_tup, rt_lst, rt_bin, rt_cmp, rt_chain, rt_isN, rt_not, rt_bop, rt_ife, rt_idx, rt_slA, rt_slB, rt_call, rt_callk, rt_blt, rt_comp, rt_compIf, rt_isi, gR_s, rt_var, DV.dat, DV.fz, List.getElem?_cons_zero, List.getElem?_cons_succ, List.set_cons_zero, List.set_cons_succ, Option.map_some, Option.map_none, Option.bind_some, Option.bind_none, List.any_cons, List.any_nil, Bool.or_false, Bool.false_or, Bool.or_true, Bool.true_or, Bool.not_true, Bool.not_false, isTy, bltD, blt1, blt2, truthD, intD, setAll, setMany, h, w3]
          · simp only [bO_some, bO_none, lO_some, lO_none, iB_t, iB_f, thn_nx, thn_rt, thn_bk, thn_ct, endOf_rt, endOf_nx, kLift_a, kOk_a, kO2_a, kIte_t, kIte_f, kIfe_t, kIfe_f, kCall_a, kArgs_a, kArgs2_a, kVals_a, kVals2_a, kOpd_a, kOpd2_a, kDat_a, kDat2_a, kBV_a, kBV2_tt, kBV2_ff, kBV2_tf, kBV2_ft, kBT_tt, kBT_ff, kBT_tf, kBT_ft, kComp_a, kSrc_a, kChain_a, kChain2_a, kChain3_t, kChain3_f, kSet_a, kPar_a, kUnp_a, kFor_a, gV_d, gV_dk, gO_d, gO_o, var_v, var_o, var_t, oV_d, oV_own, tV_d, tV_own, vB_s, oB_s, non_v, non_o, bl_v, bl_o, bl_t, int_v, int_o, str_v, str_o, glb_v, glb_o, tup_v, tup_o, lst_v, lst_o, bin_v, bin_o, bin_t, cmp_t, cmp_v, cmp_o, isN_t, isN_v, isi_t, isi_v, not_t, bop_v, bop_o, bop_t, ife_v, ife_o, idx_v, idx_o, slA_v, slA_o, slB_v, slB_o, call_v, call_o, call_t, callk_v, blt_v, blt_o, comp_v, comp_o, compIf_v, compIf_o, dict0_v, dict1_v, src_eq, rng1_v, zip_v, chain_t, as_nl, as_cs, ds_nl, ds_cs, os_nl, os_cs, vs_nl, vs_cs, es_nl, es_cs, bv_1, bv_2, bt_1, bt_2, s_nil, s_cons, s_set, s_setLc, s_par, s_unp, s_ite, s_loop, s_frz, s_app, rt_non, rt_bl, rt_int, rt_str, rt_glb, rt_tup, rt_lst, rt_bin, rt_cmp, rt_chain, rt_isN, rt_not, rt_bop, rt_ife, rt_idx, rt_slA, rt_slB, rt_call, rt_callk, rt_blt, rt_comp, rt_compIf, rt_isi, gR_s, rt_var, DV.dat, DV.fz, List.getElem?_cons_zero, List.getElem?_cons_succ, List.set_cons_zero, List.set_cons_succ, Option.map_some, Option.map_none, Option.bind_some, Option.bind_none, List.any_cons, List.any_nil, Bool.or_false, Bool.false_or, Bool.or_true, Bool.true_or, Bool.not_true, Bool.not_false, isTy, bltD, blt1, blt2, truthD, intD, setAll, setMany, h', gt0]
        have t4 : ∀ ρ : TA.Env, ρ[3]? = some (some (.d (.int w))) → ρ[1]? = some (some (.d (.int s))) → (evA (CX (n + 2)) (.bop true (.cons (.cmp .In (.var 3) (.tup (.cons (.int 4) (.cons (.int 5) .nil)))) (.cons (.cmp .Gt (.var 1) (.int 0)) .nil)))).t ρ (some q1) = some (false, some q1) := fun ρ h h' => by
          rw [andT (x := decide (w = 4 ∨ w = 5)) (y := decide (0 < s)), d4]
          · simp only [bO_some, bO_none, lO_some, lO_none, iB_t, iB_f, thn_nx, thn_rt, thn_bk, thn_ct, endOf_rt, endOf_nx, kLift_a, kOk_a, kO2_a, kIte_t, kIte_f, kIfe_t, kIfe_f, kCall_a, kArgs_a, kArgs2_a, kVals_a, kVals2_a, kOpd_a, kOpd2_a, kDat_a, kDat2_a, kBV_a, kBV2_tt, kBV2_ff, kBV2_tf, kBV2_ft, kBT_tt, kBT_ff, kBT_tf, kBT_ft, kComp_a, kSrc_a, kChain_a, kChain2_a, kChain3_t, kChain3_f, kSet_a, kPar_a, kUnp_a, kFor_a, gV_d, gV_dk, gO_d, gO_o, var_v, var_o, var_t, oV_d, oV_own, tV_d, tV_own, vB_s, oB_s, non_v, non_o, bl_v, bl_o, bl_t, int_v, int_o, str_v, str_o, glb_v, glb_o, tup_v, tup_o, lst_v, lst_o, bin_v, bin_o, bin_t, cmp_t, cmp_v, cmp_o, isN_t, isN_v, isi_t, isi_v, not_t, bop_v, bop_o, bop_t, ife_v, ife_o, idx_v, idx_o, slA_v, slA_o, slB_v, slB_o, call_v, call_o, call_t, callk_v, blt_v, blt_o, comp_v, comp_o, compIf_v, compIf_o, dict0_v, dict1_v, src_eq, rng1_v, zip_v, chain_t, as_nl, as_cs, ds_nl, ds_cs, os_nl, os_cs, vs_nl, vs_cs, es_nl, es_cs, bv_1, bv_2, bt_1, bt_2, s_nil, s_cons, s_set, s_setLc, s_par, s_unp, s_ite, s_loop, s_frz, s_app, rt_non, rt_bl, rt_int, rt_str, rt_glb, rt_tup, rt_lst, rt_bin, rt_cmp, rt_chain, rt_isN, rt_not, rt_bop, rt_ife, rt_idx, rt_slA, rt_slB, rt_call, rt_callk, rt_blt, rt_comp, rt_compIf, rt_isi, gR_s, rt_var, DV.dat, DV.fz, List.getElem?_cons_zero, List.getElem?_cons_succ, List.set_cons_zero, List.set_cons_succ, Option.map_some, Option.map_none, Option.bind_some, Option.bind_none, List.any_cons, List.any_nil, Bool.or_false, Bool.false_or, Bool.or_true, Bool.true_or, Bool.not_true, Bool.not_false, isTy, bltD, blt1, blt2, truthD, intD, setAll, setMany, h, in45]
          · simp only [bO_some, bO_none, lO_some, lO_none, iB_t, iB_f, thn_nx, thn_rt, thn_bk, thn_ct, endOf_rt, endOf_nx, kLift_a, kOk_a, kO2_a, kIte_t, kIte_f, kIfe_t, kIfe_f, kCall_a, kArgs_a, kArgs2_a, kVals_a, kVals2_a, kOpd_a, kOpd2_a, kDat_a, kDat2_a, kBV_a, kBV2_tt, kBV2_ff, kBV2_tf, kBV2_ft, kBT_tt, kBT_ff, kBT_tf, kBT_ft, kComp_a, kSrc_a, kChain_a, kChain2_a, kChain3_t, kChain3_f, kSet_a, kPar_a, kUnp_a, kFor_a, gV_d, gV_dk, gO_d, gO_o, var_v, var_o, var_t, oV_d, oV_own, tV_d, tV_own, vB_s, oB_s, non_v, non_o, bl_v, bl_o, bl_t, int_v, int_o, str_v, str_o, glb_v, glb_o, tup_v, tup_o, lst_v, lst_o, bin_v, bin_o, bin_t, cmp_t, cmp_v, cmp_o, isN_t, isN_v, isi_t, isi_v, not_t, bop_v, bop_o, bop_t, ife_v, ife_o, idx_v, idx_o, slA_v, slA_o, slB_v, slB_o, call_v, call_o, call_t, callk_v, blt_v, blt_o, comp_v, comp_o, compIf_v, compIf_o, dict0_v, dict1_v, src_eq, rng1_v, zip_v, chain_t, as_nl, as_cs, ds_nl, ds_cs, os_nl, os_cs, vs_nl, vs_cs, es_nl, es_cs, bv_1, bv_2, bt_1, bt_2, s_nil, s_cons, s_set, s_setLc, s_par, s_unp, s_ite, s_loop, s_frz, s_app, rt_non, rt_bl, rt_int, rt_str, rt_glb, rt_tup, rt_lst, rt_bin, rt_cmp, rt_chain, rt_isN, rt_not, rt_bop, rt_ife, rt_idx, rt_slA, rt_slB, rt_call, rt_callk, rt_blt, rt_comp, rt_compIf, rt_isi, gR_s, rt_var, DV.dat, DV.fz, List.getElem?_cons_zero, List.getElem?_cons_succ, List.set_cons_zero, List.set_cons_succ, Option.map_some, Option.map_none, Option.bind_some, Option.bind_none, List.any_cons, List.any_nil, Bool.or_false, Bool.false_or, Bool.or_true, Bool.true_or, Bool.not_true, Bool.not_false, isTy, bltD, blt1, blt2, truthD, intD, setAll, setMany, h', gt0]
        by_cases h6 : w = 6 ∧ 0 < r
        · obtain ⟨l, q2, g1, g2, g3⟩ := drawN (n + 1) (c + 1) q1 4 (by omega) (by omega) e3 (by omega)
          have g1' : callD Pg (n + 2) 6 [.dk, .d (.int 4)] (some q1) = some (.d (.int l), some q2) := g1
          have br := BK_r s r h6.2
          have bp := BK_pos s (r - 1)
          have cl : ((rngL 0 (1 + l)).length : Int) * BK s (r - 1) ≤ 4 * BK s (r - 1) := by
            rw [rng_len]
            exact Int.mul_le_mul_of_nonneg_right (by omega) (by omega)
          obtain ⟨ds, q3, k1, k2, k3, k4⟩ := comp_st (tg := 4) (e := (evA (CX (n + 2)) b8_0).v) (ρ := [some .dk, some (.d (.int s)), some (.d (.int r)), some (.d (.int w)), none]) (P := fun _ d => ∀ m, s + (r - 1) < m → isK m s (r - 1) d = true) (B := BK s (r - 1)) (lim := 999999999) (by omega) (rngL 0 (1 + l)) (c + 1 + 1) q2 g3 (by omega) fun x _ c' q' hq' hc' => by
            obtain ⟨d, q'', f1, f2, f3⟩ := ih s (r - 1) c' q' (by omega) hq' (by omega)
            refine ⟨.d d, d, q'', ?_, rfl, f2, f3⟩
            simp only [b8_0, bO_some, bO_none, lO_some, lO_none, iB_t, iB_f, thn_nx, thn_rt, thn_bk, thn_ct, endOf_rt, endOf_nx, kLift_a, kOk_a, kO2_a, kIte_t, kIte_f, kIfe_t, kIfe_f, kCall_a, kArgs_a, kArgs2_a, kVals_a, kVals2_a, kOpd_a, kOpd2_a, kDat_a, kDat2_a, kBV_a, kBV2_tt, kBV2_ff, kBV2_tf, kBV2_ft, kBT_tt, kBT_ff, kBT_tf, kBT_ft, kComp_a, kSrc_a, kChain_a, kChain2_a, kChain3_t, kChain3_f, kSet_a, kPar_a, kUnp_a, kFor_a, gV_d, gV_dk, gO_d, gO_o, var_v, var_o, var_t, oV_d, oV_own, tV_d, tV_own, vB_s, oB_s, non_v, non_o, bl_v, bl_o, bl_t, int_v, int_o, str_v, str_o, glb_v, glb_o, tup_v, tup_o, lst_v, lst_o, bin_v, bin_o, bin_t, cmp_t, cmp_v, cmp_o, isN_t, isN_v, isi_t, isi_v, not_t, bop_v, bop_o, bop_t, ife_v, ife_o, idx_v, idx_o, slA_v, slA_o, slB_v, slB_o, call_v, call_o, call_t, callk_v, blt_v, blt_o, comp_v, comp_o, compIf_v, compIf_o, dict0_v, dict1_v, src_eq, rng1_v, zip_v, chain_t, as_nl, as_cs, ds_nl, ds_cs, os_nl, os_cs, vs_nl, vs_cs, es_nl, es_cs, bv_1, bv_2, bt_1, bt_2, s_nil, s_cons, s_set, s_setLc, s_par, s_unp, s_ite, s_loop, s_frz, s_app, rt_non, rt_bl, rt_int, rt_str, rt_glb, rt_tup, rt_lst, rt_bin, rt_cmp, rt_chain, rt_isN, rt_not, rt_bop, rt_ife, rt_idx, rt_slA, rt_slB, rt_call, rt_callk, rt_blt, rt_comp, rt_compIf, rt_isi, gR_s, rt_var, DV.dat, DV.fz, List.getElem?_cons_zero, List.getElem?_cons_succ, List.set_cons_zero, List.set_cons_succ, Option.map_some, Option.map_none, Option.bind_some, Option.bind_none, List.any_cons, List.any_nil, Bool.or_false, Bool.false_or, Bool.or_true, Bool.true_or, Bool.not_true, Bool.not_false, isTy, bltD, blt1, blt2, truthD, intD, setAll, setMany, wipeE, sub1 h6.2, f1]
          have kl : ds.length = 1 + l := by rw [k2, rng_len]
          have sl : (rngL 0 (1 + l)).length ≤ sizeLine := by
            rw [rng_len]
            have : (5 : Nat) ≤ sizeLine := by decide
            omega
          refine ⟨Rw ds, q3, go _ ?_, fun m hm => ?_, k4.mono (by omega)⟩
          · have d6 : decide (w = 6) = true := decide_eq_true h6.1
            have d0 : decide (0 < r) = true := decide_eq_true h6.2
            have sv : (evA (CX (n + 2)) (.rng1 (.bin .Add (.int 1) (.call 6 (.cons (.var 0) (.cons (.int 4) .nil)))))).src [some .dk, some (.d (.int s)), some (.d (.int r)), some (.d (.int w)), none] (some q1) = some (rngL 0 (1 + l), some q2) := by
              refine src_v (x := .d (.list (rngL 0 (1 + l)))) ?_ rfl rfl sl
              have o1 : (evA (CX (n + 2)) (.bin .Add (.int 1) (.call 6 (.cons (.var 0) (.cons (.int 4) .nil))))).o [some .dk, some (.d (.int s)), some (.d (.int r)), some (.d (.int w)), none] (some q1) = some (.int ((1 + l : Nat) : Int), some q2) := by
                simp only [bO_some, bO_none, lO_some, lO_none, iB_t, iB_f, thn_nx, thn_rt, thn_bk, thn_ct, endOf_rt, endOf_nx, kLift_a, kOk_a, kO2_a, kIte_t, kIte_f, kIfe_t, kIfe_f, kCall_a, kArgs_a, kArgs2_a, kVals_a, kVals2_a, kOpd_a, kOpd2_a, kDat_a, kDat2_a, kBV_a, kBV2_tt, kBV2_ff, kBV2_tf, kBV2_ft, kBT_tt, kBT_ff, kBT_tf, kBT_ft, kComp_a, kSrc_a, kChain_a, kChain2_a, kChain3_t, kChain3_f, kSet_a, kPar_a, kUnp_a, kFor_a, gV_d, gV_dk, gO_d, gO_o, var_v, var_o, var_t, oV_d, oV_own, tV_d, tV_own, vB_s, oB_s, non_v, non_o, bl_v, bl_o, bl_t, int_v, int_o, str_v, str_o, glb_v, glb_o, tup_v, tup_o, lst_v, lst_o, bin_v, bin_o, bin_t, cmp_t, cmp_v, cmp_o, isN_t, isN_v, isi_t, isi_v, not_t, bop_v, bop_o, bop_t, ife_v, ife_o, idx_v, idx_o, slA_v, slA_o, slB_v, slB_o, call_v, call_o, call_t, callk_v, blt_v, blt_o, comp_v, comp_o, compIf_v, compIf_o, dict0_v, dict1_v, src_eq, rng1_v, zip_v, chain_t, as_nl, as_cs, ds_nl, ds_cs, os_nl, os_cs, vs_nl, vs_cs, es_nl, es_cs, bv_1, bv_2, bt_1, bt_2, s_nil, s_cons, s_set, s_setLc, s_par, s_unp, s_ite, s_loop, s_frz, s_app, rt_non, rt_bl, rt_int, rt_str, rt_glb, rt_tup, rt_lst, rt_bin, rt_cmp, rt_chain, rt_isN, rt_not, rt_bop, rt_ife, rt_idx, rt_slA, rt_slB, rt_call, rt_callk, rt_blt, rt_comp, rt_compIf, rt_isi, gR_s, rt_var, DV.dat, DV.fz, List.getElem?_cons_zero, List.getElem?_cons_succ, List.set_cons_zero, List.set_cons_succ, Option.map_some, Option.map_none, Option.bind_some, Option.bind_none, List.any_cons, List.any_nil, Bool.or_false, Bool.false_or, Bool.or_true, Bool.true_or, Bool.not_true, Bool.not_false, isTy, bltD, blt1, blt2, truthD, intD, setAll, setMany, g1', add1N]
              rw [rng1_v, o1, bO_some, kLift_a, rngV_ok (show 1 + l ≤ 100 by omega), lO_some]
            have cv := e_comp (C := CX (n + 2)) (elt := b8_0) (tg := .one 4) sv k1
            have te := e_blt1 (f := .tuple) (o_v (f := (evA (CX (n + 2)) (.comp b8_0 (.one 4) (.rng1 (.bin .Add (.int 1) (.call 6 (.cons (.var 0) (.cons (.int 4) .nil))))))).v) (d := .list ds) cv rfl) (tupB_l (xs := ds))
            have tv := e_tup (C := CX (n + 2)) (es := .cons (.str "row") (.cons (.blt .tuple (.cons (.comp b8_0 (.one 4) (.rng1 (.bin .Add (.int 1) (.call 6 (.cons (.var 0) (.cons (.int 4) .nil)))))) .nil)) .nil)) (d_cons (v := .d (.str "row")) rfl rfl (d_cons te rfl rfl))
            unfold b8
            simp only [bO_some, bO_none, lO_some, lO_none, iB_t, iB_f, thn_nx, thn_rt, thn_bk, thn_ct, endOf_rt, endOf_nx, kLift_a, kOk_a, kO2_a, kIte_t, kIte_f, kIfe_t, kIfe_f, kCall_a, kArgs_a, kArgs2_a, kVals_a, kVals2_a, kOpd_a, kOpd2_a, kDat_a, kDat2_a, kBV_a, kBV2_tt, kBV2_ff, kBV2_tf, kBV2_ft, kBT_tt, kBT_ff, kBT_tf, kBT_ft, kComp_a, kSrc_a, kChain_a, kChain2_a, kChain3_t, kChain3_f, kSet_a, kPar_a, kUnp_a, kFor_a, gV_d, gV_dk, gO_d, gO_o, var_v, var_o, var_t, oV_d, oV_own, tV_d, tV_own, vB_s, oB_s, non_v, non_o, bl_v, bl_o, bl_t, int_v, int_o, str_v, str_o, glb_v, glb_o, tup_v, tup_o, lst_v, lst_o, bin_v, bin_o, bin_t, cmp_t, cmp_v, cmp_o, isN_t, isN_v, isi_t, isi_v, not_t, bop_v, bop_o, bop_t, ife_v, ife_o, idx_v, idx_o, slA_v, slA_o, slB_v, slB_o, call_v, call_o, call_t, callk_v, blt_v, blt_o, comp_v, comp_o, compIf_v, compIf_o, dict0_v, dict1_v, src_eq, rng1_v, zip_v, chain_t, as_nl, as_cs, ds_nl, ds_cs, os_nl, os_cs, vs_nl, vs_cs, es_nl, es_cs, bv_1, bv_2, bt_1, bt_2, s_nil, s_cons, s_set, s_setLc, s_par, s_unp, s_ite, s_loop, s_frz, s_app, rt_non, rt_bl, rt_int, rt_str, rt_glb, rt_tup, rt_lst, rt_bin, rt_cmp, rt_chain, rt_isN, rt_not, rt_bop, rt_ife, rt_idx, rt_slA, rt_slB, rt_call, rt_callk, rt_blt, rt_comp, rt_compIf, rt_isi, gR_s, rt_var, DV.dat, DV.fz, List.getElem?_cons_zero, List.getElem?_cons_succ, List.set_cons_zero, List.set_cons_succ, Option.map_some, Option.map_none, Option.bind_some, Option.bind_none, List.any_cons, List.any_nil, Bool.or_false, Bool.false_or, Bool.or_true, Bool.true_or, Bool.not_true, Bool.not_false, isTy, bltD, blt1, blt2, truthD, intD, setAll, setMany, ↓tv, e1', t3 [some .dk, some (.d (.int s)), some (.d (.int r)), some (.d (.int w)), none] rfl rfl, t4 [some .dk, some (.d (.int s)), some (.d (.int r)), some (.d (.int w)), none] rfl rfl, w6, d6, d0, gt0]
          · obtain ⟨m, rfl⟩ : ∃ k, m = k + 1 := ⟨m - 1, by omega⟩
            have al : ds.all (isK m s (r - 1)) = true := List.all_eq_true.mpr fun d hd => by
              obtain ⟨_, _, hp⟩ := k3 d hd
              exact hp m (by omega)
            have dl : decide (1 ≤ ds.length ∧ ds.length ≤ 4) = true := decide_eq_true (by omega)
            unfold isK
            simp only [setrow.symm, if_false, h6.2, and_self, if_true, dl, al, Bool.and_self]
        · obtain ⟨d, q', f1, f2, f3⟩ := plain
          refine ⟨d, q', go _ ?_, f2, f3⟩
          have d6 : (decide (w = 6) && decide (0 < r)) = false := by
            rw [Bool.and_eq_false_iff]; simp only [decide_eq_false_iff_not]; omega
          have t6 : ∀ ρ : TA.Env, ρ[3]? = some (some (.d (.int w))) → ρ[2]? = some (some (.d (.int r))) → (evA (CX (n + 2)) (.bop true (.cons (.cmp .Eq (.var 3) (.int 6)) (.cons (.cmp .Gt (.var 2) (.int 0)) .nil)))).t ρ (some q1) = some (false, some q1) := fun ρ h h' => by
            rw [andT (x := decide (w = 6)) (y := decide (0 < r)), d6]
            · simp only [bO_some, bO_none, lO_some, lO_none, iB_t, iB_f, thn_nx, thn_rt, thn_bk, thn_ct, endOf_rt, endOf_nx, kLift_a, kOk_a, kO2_a, kIte_t, kIte_f, kIfe_t, kIfe_f, kCall_a, kArgs_a, kArgs2_a, kVals_a, kVals2_a, kOpd_a, kOpd2_a, kDat_a, kDat2_a, kBV_a, kBV2_tt, kBV2_ff, kBV2_tf, kBV2_ft, kBT_tt, kBT_ff, kBT_tf, kBT_ft, kComp_a, kSrc_a, kChain_a, kChain2_a, kChain3_t, kChain3_f, kSet_a, kPar_a, kUnp_a, kFor_a, gV_d, gV_dk, gO_d, gO_o, var_v, var_o, var_t, oV_d, oV_own, tV_d, tV_own, vB_s, oB_s, non_v, non_o, bl_v, bl_o, bl_t, int_v, int_o, str_v, str_o, glb_v, glb_o, tup_v, tup_o, lst_v, lst_o, bin_v, bin_o, bin_t, cmp_t, cmp_v, cmp_o, isN_t, isN_v, isi_t, isi_v, not_t, bop_v, bop_o, bop_t, ife_v, ife_o, idx_v, idx_o, slA_v, slA_o, slB_v, slB_o, call_v, call_o, call_t, callk_v, blt_v, blt_o, comp_v, comp_o, compIf_v, compIf_o, dict0_v, dict1_v, src_eq, rng1_v, zip_v, chain_t, as_nl, as_cs, ds_nl, ds_cs, os_nl, os_cs, vs_nl, vs_cs, es_nl, es_cs, bv_1, bv_2, bt_1, bt_2, s_nil, s_cons, s_set, s_setLc, s_par, s_unp, s_ite, s_loop, s_frz, s_app, rt_non, rt_bl, rt_int, rt_str, rt_glb, rt_tup, rt_lst, rt_bin, rt_cmp, rt_chain, rt_isN, rt_not, rt_bop, rt_ife, rt_idx, rt_slA, rt_slB, rt_call, rt_callk, rt_blt, rt_comp, rt_compIf, rt_isi, gR_s, rt_var, DV.dat, DV.fz, List.getElem?_cons_zero, List.getElem?_cons_succ, List.set_cons_zero, List.set_cons_succ, Option.map_some, Option.map_none, Option.bind_some, Option.bind_none, List.any_cons, List.any_nil, Bool.or_false, Bool.false_or, Bool.or_true, Bool.true_or, Bool.not_true, Bool.not_false, isTy, bltD, blt1, blt2, truthD, intD, setAll, setMany, h, w6]
            · simp only [bO_some, bO_none, lO_some, lO_none, iB_t, iB_f, thn_nx, thn_rt, thn_bk, thn_ct, endOf_rt, endOf_nx, kLift_a, kOk_a, kO2_a, kIte_t, kIte_f, kIfe_t, kIfe_f, kCall_a, kArgs_a, kArgs2_a, kVals_a, kVals2_a, kOpd_a, kOpd2_a, kDat_a, kDat2_a, kBV_a, kBV2_tt, kBV2_ff, kBV2_tf, kBV2_ft, kBT_tt, kBT_ff, kBT_tf, kBT_ft, kComp_a, kSrc_a, kChain_a, kChain2_a, kChain3_t, kChain3_f, kSet_a, kPar_a, kUnp_a, kFor_a, gV_d, gV_dk, gO_d, gO_o, var_v, var_o, var_t, oV_d, oV_own, tV_d, tV_own, vB_s, oB_s, non_v, non_o, bl_v, bl_o, bl_t, int_v, int_o, str_v, str_o, glb_v, glb_o, tup_v, tup_o, lst_v, lst_o, bin_v, bin_o, bin_t, cmp_t, cmp_v, cmp_o, isN_t, isN_v, isi_t, isi_v, not_t, bop_v, bop_o, bop_t, ife_v, ife_o, idx_v, idx_o, slA_v, slA_o, slB_v, slB_o, call_v, call_o, call_t, callk_v, blt_v, blt_o, comp_v, comp_o, compIf_v, compIf_o, dict0_v, dict1_v, src_eq, rng1_v, zip_v, chain_t, as_nl, as_cs, ds_nl, ds_cs, os_nl, os_cs, vs_nl, vs_cs, es_nl, es_cs, bv_1, bv_2, bt_1, bt_2, s_nil, s_cons, s_set, s_setLc, s_par, s_unp, s_ite, s_loop, s_frz, s_app, rt_non, rt_bl, rt_int, rt_str, rt_glb, rt_tup, rt_lst, rt_bin, rt_cmp, rt_chain, rt_isN, rt_not, rt_bop, rt_ife, rt_idx, rt_slA, rt_slB, rt_call, rt_callk, rt_blt, rt_comp, rt_compIf, rt_isi, gR_s, rt_var, DV.dat, DV.fz, List.getElem?_cons_zero, List.getElem?_cons_succ, List.set_cons_zero, List.set_cons_succ, Option.map_some, Option.map_none, Option.bind_some, Option.bind_none, List.any_cons, List.any_nil, Bool.or_false, Bool.false_or, Bool.or_true, Bool.true_or, Bool.not_true, Bool.not_false, isTy, bltD, blt1, blt2, truthD, intD, setAll, setMany, h', gt0]
          unfold b8
          simp only [bO_some, bO_none, lO_some, lO_none, iB_t, iB_f, thn_nx, thn_rt, thn_bk, thn_ct, endOf_rt, endOf_nx, kLift_a, kOk_a, kO2_a, kIte_t, kIte_f, kIfe_t, kIfe_f, kCall_a, kArgs_a, kArgs2_a, kVals_a, kVals2_a, kOpd_a, kOpd2_a, kDat_a, kDat2_a, kBV_a, kBV2_tt, kBV2_ff, kBV2_tf, kBV2_ft, kBT_tt, kBT_ff, kBT_tf, kBT_ft, kComp_a, kSrc_a, kChain_a, kChain2_a, kChain3_t, kChain3_f, kSet_a, kPar_a, kUnp_a, kFor_a, gV_d, gV_dk, gO_d, gO_o, var_v, var_o, var_t, oV_d, oV_own, tV_d, tV_own, vB_s, oB_s, non_v, non_o, bl_v, bl_o, bl_t, int_v, int_o, str_v, str_o, glb_v, glb_o, tup_v, tup_o, lst_v, lst_o, bin_v, bin_o, bin_t, cmp_t, cmp_v, cmp_o, isN_t, isN_v, isi_t, isi_v, not_t, bop_v, bop_o, bop_t, ife_v, ife_o, idx_v, idx_o, slA_v, slA_o, slB_v, slB_o, call_v, call_o, call_t, callk_v, blt_v, blt_o, comp_v, comp_o, compIf_v, compIf_o, dict0_v, dict1_v, src_eq, rng1_v, zip_v, chain_t, as_nl, as_cs, ds_nl, ds_cs, os_nl, os_cs, vs_nl, vs_cs, es_nl, es_cs, bv_1, bv_2, bt_1, bt_2, s_nil, s_cons, s_set, s_setLc, s_par, s_unp, s_ite, s_loop, s_frz, s_app, rt_non, rt_bl, rt_int, rt_str, rt_glb, rt_tup, rt_lst, rt_bin, rt_cmp, rt_chain, rt_isN, rt_not, rt_bop, rt_ife, rt_idx, rt_slA, rt_slB, rt_call, rt_callk, rt_blt, rt_comp, rt_compIf, rt_isi, gR_s, rt_var, DV.dat, DV.fz, List.getElem?_cons_zero, List.getElem?_cons_succ, List.set_cons_zero, List.set_cons_succ, Option.map_some, Option.map_none, Option.bind_some, Option.bind_none, List.any_cons, List.any_nil, Bool.or_false, Bool.false_or, Bool.or_true, Bool.true_or, Bool.not_true, Bool.not_false, isTy, bltD, blt1, blt2, truthD, intD, setAll, setMany, e1', t3 [some .dk, some (.d (.int s)), some (.d (.int r)), some (.d (.int w)), none] rfl rfl, t4 [some .dk, some (.d (.int s)), some (.d (.int r)), some (.d (.int w)), none] rfl rfl, t6 [some .dk, some (.d (.int s)), some (.d (.int r)), some (.d (.int w)), none] rfl rfl, f1]
end K06

set_option maxHeartbeats 4000000
/-! k06: loosened kinds. -/
namespace K06
open PySem TA TM
theorem comp_stI {tg : Nat} {e : Cm DV} {ρ : TA.Env} {P : PyData → PyData → Prop} {B lim : Int} (hB : 0 ≤ B) : ∀ (xs : List PyData) (c : Int) (q : Dk), DkOk c q → c + xs.length * B ≤ lim →
    (∀ x ∈ xs, ∀ c q, DkOk c q → c + B ≤ lim → ∃ v d q', e ((wipeE ρ [tg]).set tg (some (.d x))) (some q) = some (v, some q') ∧ v.dat = some d ∧ P x d ∧ DkOk (c + B) q') →
    ∃ ds q', compL (.one tg) e (.ret true) xs ρ (some q) = some (ds, some q') ∧ ds.length = xs.length ∧ (∀ (i : Nat) x d, xs[i]? = some x → ds[i]? = some d → P x d) ∧ DkOk (c + xs.length * B) q'
  | [], c, q, hq, _, _ => ⟨[], q, rfl, rfl, by simp, hq.mono (by simp)⟩
  | x :: xs, c, q, hq, hl, h => by
    have hl' : c + B + xs.length * B ≤ lim := by
      have : ((x :: xs).length : Int) * B = xs.length * B + B := by rw [List.length_cons]; push_cast; rw [Int.add_mul]; omega
      omega
    have nn : (0 : Int) ≤ xs.length * B := Int.mul_nonneg (by omega) hB
    obtain ⟨v, d, q1, e1, e2, e3, e4⟩ := h x List.mem_cons_self c q hq (by omega)
    obtain ⟨ds, q2, f1, f2, f3, f4⟩ := comp_stI hB xs (c + B) q1 e4 hl' fun y hy => h y (List.mem_cons_of_mem _ hy)
    refine ⟨d :: ds, q2, ?_, by simp [f2], fun i y z hy hz => ?_, f4.mono ?_⟩
    · rw [compL]
      simp only [setTg, Tg.slots]
      rw [show (Cm.ret true : Cm Bool) ((wipeE ρ [tg]).set tg (some (.d x))) (some q) = some (true, some q) from rfl]
      simp only [e1, e2, f1]
    · cases i with
      | zero => simp at hy hz; subst hy hz; exact e3
      | succ i => exact f3 i y z (by simpa using hy) (by simpa using hz)
    · have : ((x :: xs).length : Int) * B = xs.length * B + B := by rw [List.length_cons]; push_cast; rw [Int.add_mul]; omega
      omega
theorem st_ne_rw {d : PyData} {ds : List PyData} : St d ≠ Rw ds := by
  intro h
  injection h with h
  simp only [List.cons.injEq] at h
  exact setrow (PyData.str.inj h.1)
theorem st_inj {d e : PyData} (h : St d = St e) : d = e := by
  injection h with h
  simp only [List.cons.injEq, and_true, true_and] at h
  exact h
theorem rw_inj {d e : List PyData} (h : Rw d = Rw e) : d = e := by
  injection h with h
  simp only [List.cons.injEq, and_true, true_and] at h
  exact PyData.tuple.inj h
def LoL (R : PyData → PyData → Prop) (ds es : List PyData) : Prop := ds.length = es.length ∧ ∀ (i : Nat) d e, ds[i]? = some d → es[i]? = some e → R d e
/-- l is own with some sets' insides forgotten -/
def Lo : Nat → PyData → PyData → Prop
  | 0, _, _ => False
  | m + 1, o, l => (∃ x, o = .str x ∧ l = .str x) ∨ (∃ d, o = St d ∧ l = St .none) ∨ (∃ d e, o = St d ∧ l = St e ∧ isNone d = false ∧ Lo m d e) ∨ ∃ ds es, o = Rw ds ∧ l = Rw es ∧ LoL (Lo m) ds es
theorem Lo.kd : ∀ {m : Nat} {o l : PyData}, Kd m o → Lo m o l → Kd m l
  | 0, _, _, h, _ => h.elim
  | m + 1, o, l, h, h2 => by
    rcases h2 with ⟨x, rfl, rfl⟩ | ⟨d, rfl, rfl⟩ | ⟨d, e, rfl, rfl, hn, hl⟩ | ⟨ds, es, rfl, rfl, hl, hp⟩
    · exact h
    · exact .inr (.inl rfl)
    · rcases h with ⟨x, e1, _⟩ | e1 | ⟨e', e1, h⟩ | ⟨es, e1, _⟩
      · cases e1
      · rw [st_inj e1] at hn; cases hn
      · exact .inr (.inr (.inl ⟨e, rfl, Lo.kd (by rw [st_inj e1]; exact h) hl⟩))
      · exact absurd e1 st_ne_rw
    · rcases h with ⟨x, e1, _⟩ | e1 | ⟨e', e1, h⟩ | ⟨es', e1, h1, h2, h3⟩
      · cases e1
      · exact absurd e1.symm st_ne_rw
      · exact absurd e1.symm st_ne_rw
      · have e2 := rw_inj e1
        subst e2
        refine .inr (.inr (.inr ⟨es, rfl, ?_, by omega, fun e he => ?_⟩))
        · intro z; subst z; cases ds with
          | nil => exact h1 rfl
          | cons _ _ => simp at hl
        · obtain ⟨i, hi⟩ := List.getElem?_of_mem he
          have hlt : i < ds.length := by rw [hl]; exact (List.getElem?_eq_some_iff.mp hi).1
          have hd : ds[i]? = some ds[i] := List.getElem?_eq_getElem hlt
          exact Lo.kd (h3 _ (List.getElem_mem hlt)) (hp i _ e hd hi)
def BL (m : Nat) : Int := 5 ^ m
theorem BL_pos (m : Nat) : 1 ≤ BL m := by
  unfold BL
  exact_mod_cast Nat.one_le_pow _ _ (by decide)
theorem BL_s (m : Nat) : BL (m + 1) = 5 * BL m := by
  unfold BL
  rw [Int.pow_succ]; omega
theorem loosen : ∀ (m n : Nat) (o : PyData) (c : Int) (q : Dk), m < n → Kd m o → DkOk c q → c + BL m < 1000000000 → ∃ l q', callD Pg n 10 [.dk, .d o] (some q) = some (.d l, some q') ∧ Lo m o l ∧ DkOk (c + BL m) q'
  | 0, _, _, _, _, _, h, _, _ => h.elim
  | m + 1, 0, _, _, _, h, _, _, _ => by omega
  | m + 1, n + 1, o, c, q, hn, ho, hq, hc => by
    have b1 := BL_s m
    have b2 := BL_pos m
    have go : ∀ res, endOf (evSs (CX n) b10 [some .dk, some (.d o), none] (some q)) = res → callD Pg (n + 1) 10 [.dk, .d o] (some q) = res := fun _ h => h
    rcases ho with ⟨x, rfl, hx⟩ | rfl | ⟨e, rfl, he⟩ | ⟨es, rfl, e1, e2, e3⟩
    · refine ⟨.str x, q, go _ ?_, .inl ⟨x, rfl, rfl⟩, hq.mono (by omega)⟩
      unfold b10
      simp only [bO_some, bO_none, lO_some, lO_none, iB_t, iB_f, thn_nx, thn_rt, thn_bk, thn_ct, endOf_rt, endOf_nx, kLift_a, kOk_a, kO2_a, kIte_t, kIte_f, kIfe_t, kIfe_f, kCall_a, kArgs_a, kArgs2_a, kVals_a, kVals2_a, kOpd_a, kOpd2_a, kDat_a, kDat2_a, kBV_a, kBV2_tt, kBV2_ff, kBV2_tf, kBV2_ft, kBT_tt, kBT_ff, kBT_tf, kBT_ft, kComp_a, kSrc_a, kChain_a, kChain2_a, kChain3_t, kChain3_f, kSet_a, kPar_a, kUnp_a, kFor_a, gV_d, gV_dk, gO_d, gO_o, var_v, var_o, var_t, oV_d, oV_own, tV_d, tV_own, vB_s, oB_s, non_v, non_o, bl_v, bl_o, bl_t, int_v, int_o, str_v, str_o, glb_v, glb_o, tup_v, tup_o, lst_v, lst_o, bin_v, bin_o, bin_t, cmp_t, cmp_v, cmp_o, isN_t, isN_v, isi_t, isi_v, not_t, bop_v, bop_o, bop_t, ife_v, ife_o, idx_v, idx_o, slA_v, slA_o, slB_v, slB_o, call_v, call_o, call_t, callk_v, blt_v, blt_o, comp_v, comp_o, compIf_v, compIf_o, dict0_v, dict1_v, src_eq, rng1_v, zip_v, chain_t, as_nl, as_cs, ds_nl, ds_cs, os_nl, os_cs, vs_nl, vs_cs, es_nl, es_cs, bv_1, bv_2, bt_1, bt_2, s_nil, s_cons, s_set, s_setLc, s_par, s_unp, s_ite, s_loop, s_frz, s_app, rt_non, rt_bl, rt_int, rt_str, rt_glb, rt_tup, rt_lst, rt_bin, rt_cmp, rt_chain, rt_isN, rt_not, rt_bop, rt_ife, rt_idx, rt_slA, rt_slB, rt_call, rt_callk, rt_blt, rt_comp, rt_compIf, rt_isi, gR_s, rt_var, DV.dat, DV.fz, List.getElem?_cons_zero, List.getElem?_cons_succ, List.set_cons_zero, List.set_cons_succ, Option.map_some, Option.map_none, Option.bind_some, Option.bind_none, List.any_cons, List.any_nil, Bool.or_false, Bool.false_or, Bool.or_true, Bool.true_or, Bool.not_true, Bool.not_false, isTy, bltD, blt1, blt2, truthD, intD, setAll, setMany]
    · refine ⟨St .none, q, go _ ?_, .inr (.inl ⟨.none, rfl, rfl⟩), hq.mono (by omega)⟩
      unfold b10
      simp only [bO_some, bO_none, lO_some, lO_none, iB_t, iB_f, thn_nx, thn_rt, thn_bk, thn_ct, endOf_rt, endOf_nx, kLift_a, kOk_a, kO2_a, kIte_t, kIte_f, kIfe_t, kIfe_f, kCall_a, kArgs_a, kArgs2_a, kVals_a, kVals2_a, kOpd_a, kOpd2_a, kDat_a, kDat2_a, kBV_a, kBV2_tt, kBV2_ff, kBV2_tf, kBV2_ft, kBT_tt, kBT_ff, kBT_tf, kBT_ft, kComp_a, kSrc_a, kChain_a, kChain2_a, kChain3_t, kChain3_f, kSet_a, kPar_a, kUnp_a, kFor_a, gV_d, gV_dk, gO_d, gO_o, var_v, var_o, var_t, oV_d, oV_own, tV_d, tV_own, vB_s, oB_s, non_v, non_o, bl_v, bl_o, bl_t, int_v, int_o, str_v, str_o, glb_v, glb_o, tup_v, tup_o, lst_v, lst_o, bin_v, bin_o, bin_t, cmp_t, cmp_v, cmp_o, isN_t, isN_v, isi_t, isi_v, not_t, bop_v, bop_o, bop_t, ife_v, ife_o, idx_v, idx_o, slA_v, slA_o, slB_v, slB_o, call_v, call_o, call_t, callk_v, blt_v, blt_o, comp_v, comp_o, compIf_v, compIf_o, dict0_v, dict1_v, src_eq, rng1_v, zip_v, chain_t, as_nl, as_cs, ds_nl, ds_cs, os_nl, os_cs, vs_nl, vs_cs, es_nl, es_cs, bv_1, bv_2, bt_1, bt_2, s_nil, s_cons, s_set, s_setLc, s_par, s_unp, s_ite, s_loop, s_frz, s_app, rt_non, rt_bl, rt_int, rt_str, rt_glb, rt_tup, rt_lst, rt_bin, rt_cmp, rt_chain, rt_isN, rt_not, rt_bop, rt_ife, rt_idx, rt_slA, rt_slB, rt_call, rt_callk, rt_blt, rt_comp, rt_compIf, rt_isi, gR_s, rt_var, DV.dat, DV.fz, List.getElem?_cons_zero, List.getElem?_cons_succ, List.set_cons_zero, List.set_cons_succ, Option.map_some, Option.map_none, Option.bind_some, Option.bind_none, List.any_cons, List.any_nil, Bool.or_false, Bool.false_or, Bool.or_true, Bool.true_or, Bool.not_true, Bool.not_false, isTy, bltD, blt1, blt2, truthD, intD, setAll, setMany, i1, isN_n]
    · obtain ⟨n, rfl⟩ : ∃ k, n = k + 1 := ⟨n - 1, by omega⟩
      obtain ⟨w, q1, f1, f2, f3⟩ := drawN n c q 3 (by omega) (by omega) hq (by omega)
      have f1' : callD Pg (n + 1) 6 [.dk, .d (.int 3)] (some q) = some (.d (.int w), some q1) := f1
      have w0 : cmpD .Eq (.int w) (.int 0) = some (decide (w = 0)) := eqN
      by_cases hw : w = 0
      · have d0 : decide (w = 0) = true := decide_eq_true hw
        refine ⟨St .none, q1, go _ ?_, .inr (.inl ⟨e, rfl, rfl⟩), f3.mono (by omega)⟩
        unfold b10
        simp only [bO_some, bO_none, lO_some, lO_none, iB_t, iB_f, thn_nx, thn_rt, thn_bk, thn_ct, endOf_rt, endOf_nx, kLift_a, kOk_a, kO2_a, kIte_t, kIte_f, kIfe_t, kIfe_f, kCall_a, kArgs_a, kArgs2_a, kVals_a, kVals2_a, kOpd_a, kOpd2_a, kDat_a, kDat2_a, kBV_a, kBV2_tt, kBV2_ff, kBV2_tf, kBV2_ft, kBT_tt, kBT_ff, kBT_tf, kBT_ft, kComp_a, kSrc_a, kChain_a, kChain2_a, kChain3_t, kChain3_f, kSet_a, kPar_a, kUnp_a, kFor_a, gV_d, gV_dk, gO_d, gO_o, var_v, var_o, var_t, oV_d, oV_own, tV_d, tV_own, vB_s, oB_s, non_v, non_o, bl_v, bl_o, bl_t, int_v, int_o, str_v, str_o, glb_v, glb_o, tup_v, tup_o, lst_v, lst_o, bin_v, bin_o, bin_t, cmp_t, cmp_v, cmp_o, isN_t, isN_v, isi_t, isi_v, not_t, bop_v, bop_o, bop_t, ife_v, ife_o, idx_v, idx_o, slA_v, slA_o, slB_v, slB_o, call_v, call_o, call_t, callk_v, blt_v, blt_o, comp_v, comp_o, compIf_v, compIf_o, dict0_v, dict1_v, src_eq, rng1_v, zip_v, chain_t, as_nl, as_cs, ds_nl, ds_cs, os_nl, os_cs, vs_nl, vs_cs, es_nl, es_cs, bv_1, bv_2, bt_1, bt_2, s_nil, s_cons, s_set, s_setLc, s_par, s_unp, s_ite, s_loop, s_frz, s_app, rt_non, rt_bl, rt_int, rt_str, rt_glb, rt_tup, rt_lst, rt_bin, rt_cmp, rt_chain, rt_isN, rt_not, rt_bop, rt_ife, rt_idx, rt_slA, rt_slB, rt_call, rt_callk, rt_blt, rt_comp, rt_compIf, rt_isi, gR_s, rt_var, DV.dat, DV.fz, List.getElem?_cons_zero, List.getElem?_cons_succ, List.set_cons_zero, List.set_cons_succ, Option.map_some, Option.map_none, Option.bind_some, Option.bind_none, List.any_cons, List.any_nil, Bool.or_false, Bool.false_or, Bool.or_true, Bool.true_or, Bool.not_true, Bool.not_false, isTy, bltD, blt1, blt2, truthD, intD, setAll, setMany, i0, i1, he.notNone, eqS, beq_self_eq_true, f1', w0, d0]
      · have d0 : decide (w = 0) = false := decide_eq_false hw
        obtain ⟨l, q2, g1, g2, g3⟩ := loosen m (n + 1) e (c + 1) q1 (by omega) he f3 (by omega)
        refine ⟨St l, q2, go _ ?_, .inr (.inr (.inl ⟨e, l, rfl, rfl, he.notNone, g2⟩)), g3.mono (by omega)⟩
        unfold b10
        simp only [bO_some, bO_none, lO_some, lO_none, iB_t, iB_f, thn_nx, thn_rt, thn_bk, thn_ct, endOf_rt, endOf_nx, kLift_a, kOk_a, kO2_a, kIte_t, kIte_f, kIfe_t, kIfe_f, kCall_a, kArgs_a, kArgs2_a, kVals_a, kVals2_a, kOpd_a, kOpd2_a, kDat_a, kDat2_a, kBV_a, kBV2_tt, kBV2_ff, kBV2_tf, kBV2_ft, kBT_tt, kBT_ff, kBT_tf, kBT_ft, kComp_a, kSrc_a, kChain_a, kChain2_a, kChain3_t, kChain3_f, kSet_a, kPar_a, kUnp_a, kFor_a, gV_d, gV_dk, gO_d, gO_o, var_v, var_o, var_t, oV_d, oV_own, tV_d, tV_own, vB_s, oB_s, non_v, non_o, bl_v, bl_o, bl_t, int_v, int_o, str_v, str_o, glb_v, glb_o, tup_v, tup_o, lst_v, lst_o, bin_v, bin_o, bin_t, cmp_t, cmp_v, cmp_o, isN_t, isN_v, isi_t, isi_v, not_t, bop_v, bop_o, bop_t, ife_v, ife_o, idx_v, idx_o, slA_v, slA_o, slB_v, slB_o, call_v, call_o, call_t, callk_v, blt_v, blt_o, comp_v, comp_o, compIf_v, compIf_o, dict0_v, dict1_v, src_eq, rng1_v, zip_v, chain_t, as_nl, as_cs, ds_nl, ds_cs, os_nl, os_cs, vs_nl, vs_cs, es_nl, es_cs, bv_1, bv_2, bt_1, bt_2, s_nil, s_cons, s_set, s_setLc, s_par, s_unp, s_ite, s_loop, s_frz, s_app, rt_non, rt_bl, rt_int, rt_str, rt_glb, rt_tup, rt_lst, rt_bin, rt_cmp, rt_chain, rt_isN, rt_not, rt_bop, rt_ife, rt_idx, rt_slA, rt_slB, rt_call, rt_callk, rt_blt, rt_comp, rt_compIf, rt_isi, gR_s, rt_var, DV.dat, DV.fz, List.getElem?_cons_zero, List.getElem?_cons_succ, List.set_cons_zero, List.set_cons_succ, Option.map_some, Option.map_none, Option.bind_some, Option.bind_none, List.any_cons, List.any_nil, Bool.or_false, Bool.false_or, Bool.or_true, Bool.true_or, Bool.not_true, Bool.not_false, isTy, bltD, blt1, blt2, truthD, intD, setAll, setMany, i0, i1, he.notNone, eqS, beq_self_eq_true, f1', w0, d0, g1]
    · have cl : (es.length : Int) * BL m ≤ 4 * BL m := Int.mul_le_mul_of_nonneg_right (by omega) (by omega)
      have sl : es.length ≤ sizeLine := by
        have : (5 : Nat) ≤ sizeLine := by decide
        omega
      obtain ⟨ds, q3, k1, k2, k3, k4⟩ := comp_stI (tg := 2) (e := (evA (CX n) b10_0).v) (ρ := [some .dk, some (.d (Rw es)), none]) (P := Lo m) (B := BL m) (lim := 999999999) (by omega) es c q hq (by omega) fun x hx c' q' hq' hc' => by
        obtain ⟨d, q'', g1, g2, g3⟩ := loosen m n x c' q' (by omega) (e3 x hx) hq' (by omega)
        refine ⟨.d d, d, q'', ?_, rfl, g2, g3⟩
        simp only [b10_0, bO_some, bO_none, lO_some, lO_none, iB_t, iB_f, thn_nx, thn_rt, thn_bk, thn_ct, endOf_rt, endOf_nx, kLift_a, kOk_a, kO2_a, kIte_t, kIte_f, kIfe_t, kIfe_f, kCall_a, kArgs_a, kArgs2_a, kVals_a, kVals2_a, kOpd_a, kOpd2_a, kDat_a, kDat2_a, kBV_a, kBV2_tt, kBV2_ff, kBV2_tf, kBV2_ft, kBT_tt, kBT_ff, kBT_tf, kBT_ft, kComp_a, kSrc_a, kChain_a, kChain2_a, kChain3_t, kChain3_f, kSet_a, kPar_a, kUnp_a, kFor_a, gV_d, gV_dk, gO_d, gO_o, var_v, var_o, var_t, oV_d, oV_own, tV_d, tV_own, vB_s, oB_s, non_v, non_o, bl_v, bl_o, bl_t, int_v, int_o, str_v, str_o, glb_v, glb_o, tup_v, tup_o, lst_v, lst_o, bin_v, bin_o, bin_t, cmp_t, cmp_v, cmp_o, isN_t, isN_v, isi_t, isi_v, not_t, bop_v, bop_o, bop_t, ife_v, ife_o, idx_v, idx_o, slA_v, slA_o, slB_v, slB_o, call_v, call_o, call_t, callk_v, blt_v, blt_o, comp_v, comp_o, compIf_v, compIf_o, dict0_v, dict1_v, src_eq, rng1_v, zip_v, chain_t, as_nl, as_cs, ds_nl, ds_cs, os_nl, os_cs, vs_nl, vs_cs, es_nl, es_cs, bv_1, bv_2, bt_1, bt_2, s_nil, s_cons, s_set, s_setLc, s_par, s_unp, s_ite, s_loop, s_frz, s_app, rt_non, rt_bl, rt_int, rt_str, rt_glb, rt_tup, rt_lst, rt_bin, rt_cmp, rt_chain, rt_isN, rt_not, rt_bop, rt_ife, rt_idx, rt_slA, rt_slB, rt_call, rt_callk, rt_blt, rt_comp, rt_compIf, rt_isi, gR_s, rt_var, DV.dat, DV.fz, List.getElem?_cons_zero, List.getElem?_cons_succ, List.set_cons_zero, List.set_cons_succ, Option.map_some, Option.map_none, Option.bind_some, Option.bind_none, List.any_cons, List.any_nil, Bool.or_false, Bool.false_or, Bool.or_true, Bool.true_or, Bool.not_true, Bool.not_false, isTy, bltD, blt1, blt2, truthD, intD, setAll, setMany, wipeE, g1]
      refine ⟨Rw ds, q3, go _ ?_, .inr (.inr (.inr ⟨es, ds, rfl, rfl, k2.symm, k3⟩)), k4.mono (by omega)⟩
      have nn : isNone (.tuple es) = false := rfl
      unfold b10
      simp only [bO_some, bO_none, lO_some, lO_none, iB_t, iB_f, thn_nx, thn_rt, thn_bk, thn_ct, endOf_rt, endOf_nx, kLift_a, kOk_a, kO2_a, kIte_t, kIte_f, kIfe_t, kIfe_f, kCall_a, kArgs_a, kArgs2_a, kVals_a, kVals2_a, kOpd_a, kOpd2_a, kDat_a, kDat2_a, kBV_a, kBV2_tt, kBV2_ff, kBV2_tf, kBV2_ft, kBT_tt, kBT_ff, kBT_tf, kBT_ft, kComp_a, kSrc_a, kChain_a, kChain2_a, kChain3_t, kChain3_f, kSet_a, kPar_a, kUnp_a, kFor_a, gV_d, gV_dk, gO_d, gO_o, var_v, var_o, var_t, oV_d, oV_own, tV_d, tV_own, vB_s, oB_s, non_v, non_o, bl_v, bl_o, bl_t, int_v, int_o, str_v, str_o, glb_v, glb_o, tup_v, tup_o, lst_v, lst_o, bin_v, bin_o, bin_t, cmp_t, cmp_v, cmp_o, isN_t, isN_v, isi_t, isi_v, not_t, bop_v, bop_o, bop_t, ife_v, ife_o, idx_v, idx_o, slA_v, slA_o, slB_v, slB_o, call_v, call_o, call_t, callk_v, blt_v, blt_o, comp_v, comp_o, compIf_v, compIf_o, dict0_v, dict1_v, src_eq, rng1_v, zip_v, chain_t, as_nl, as_cs, ds_nl, ds_cs, os_nl, os_cs, vs_nl, vs_cs, es_nl, es_cs, bv_1, bv_2, bt_1, bt_2, s_nil, s_cons, s_set, s_setLc, s_par, s_unp, s_ite, s_loop, s_frz, s_app, rt_non, rt_bl, rt_int, rt_str, rt_glb, rt_tup, rt_lst, rt_bin, rt_cmp, rt_chain, rt_isN, rt_not, rt_bop, rt_ife, rt_idx, rt_slA, rt_slB, rt_call, rt_callk, rt_blt, rt_comp, rt_compIf, rt_isi, gR_s, rt_var, DV.dat, DV.fz, List.getElem?_cons_zero, List.getElem?_cons_succ, List.set_cons_zero, List.set_cons_succ, Option.map_some, Option.map_none, Option.bind_some, Option.bind_none, List.any_cons, List.any_nil, Bool.or_false, Bool.false_or, Bool.or_true, Bool.true_or, Bool.not_true, Bool.not_false, isTy, bltD, blt1, blt2, truthD, intD, setAll, setMany, i0, i1, nn, eqS, beq_eq_false_iff_ne.mpr setrow.symm, itemsD, srcL_ok sl, k1, tupB_l]
end K06

set_option maxHeartbeats 4000000
/-! k06: the algebra of joining. -/
namespace K06
open PySem TA TM
theorem eqv_comm {n : Nat} {a b : PyData} (ha : Kd n a) (hb : Kd n b) : PyData.eqv a b = PyData.eqv b a := by
  rw [Bool.eq_iff_iff, eqv_iff a b ha.nice.c hb.nice.c, eqv_iff b a hb.nice.c ha.nice.c]
  exact ⟨Eq.symm, Eq.symm⟩
theorem J_self {n : Nat} {a : PyData} (h : Kd (n + 1) a) : J (n + 1) a a = some a := by unfold J; rw [if_pos (eqv_refl h)]
theorem J_stK {n : Nat} {x y : PyData} (hx : Kd n x) (hy : Kd n y) : J (n + 1) (St x) (St y) = (J n x y).map St := by
  cases n with
  | zero => exact hx.elim
  | succ n =>
    rw [J_st, hx.notNone, hy.notNone]
    cases he : PyData.eqv (St x) (St y) with
    | true =>
      have e := st_inj ((eqv_iff (St x) (St y) hx.nice.st.c hy.nice.st.c).mp he)
      subst e
      rw [J_self hx]; rfl
    | false => rfl
theorem Jl_self {n : Nat} : ∀ {xs : List PyData}, (∀ x ∈ xs, Kd n x) → Jl (J n) xs xs = some xs
  | [], _ => rfl
  | x :: xs, h => by
    cases n with
    | zero => exact (h x List.mem_cons_self).elim
    | succ n => rw [Jl, J_self (h x List.mem_cons_self), Jl_self fun y hy => h y (List.mem_cons_of_mem _ hy)]
theorem J_rwK {n : Nat} {xs ys : List PyData} (hx : ∀ x ∈ xs, Kd n x) (hy : ∀ y ∈ ys, Kd n y) (l : xs.length = ys.length) : J (n + 1) (Rw xs) (Rw ys) = (Jl (J n) xs ys).map Rw := by
  rw [J_rw, if_pos l]
  cases he : PyData.eqv (Rw xs) (Rw ys) with
  | true =>
    have e := rw_inj ((eqv_iff (Rw xs) (Rw ys) (Nice.rw fun x h => (hx x h).nice).c (Nice.rw fun x h => (hy x h).nice).c).mp he)
    subst e
    rw [Jl_self hx]; rfl
  | false => rfl
theorem J_nl {n : Nat} {y : PyData} (hy : y = .none ∨ Kd n y) : J (n + 1) (St .none) (St y) = some (St y) := by
  rw [J_st]
  rcases hy with rfl | hy
  · rfl
  · cases he : PyData.eqv (St .none) (St y) with
    | true =>
      have e := st_inj ((eqv_iff (St .none) (St y) ((nice_none 0).st).c hy.nice.st.c).mp he)
      subst e
      rfl
    | false => rfl
theorem J_nr {n : Nat} {y : PyData} (hy : y = .none ∨ Kd n y) : J (n + 1) (St y) (St .none) = some (St y) := by
  rw [J_st]
  rcases hy with rfl | hy
  · rfl
  · rw [hy.notNone]
    cases he : PyData.eqv (St y) (St .none) with
    | true => rfl
    | false => rfl
theorem Jl_comm {n : Nat} (ih : ∀ a b, Kd n a → Kd n b → J n a b = J n b a) : ∀ {xs ys : List PyData}, (∀ x ∈ xs, Kd n x) → (∀ y ∈ ys, Kd n y) → Jl (J n) xs ys = Jl (J n) ys xs
  | [], [], _, _ => rfl
  | [], _ :: _, _, _ => rfl
  | _ :: _, [], _, _ => rfl
  | x :: xs, y :: ys, hx, hy => by
    rw [Jl, Jl, ih x y (hx x List.mem_cons_self) (hy y List.mem_cons_self), Jl_comm ih (fun z hz => hx z (List.mem_cons_of_mem _ hz)) fun z hz => hy z (List.mem_cons_of_mem _ hz)]
theorem J_comm : ∀ {n : Nat} {a b : PyData}, Kd n a → Kd n b → J n a b = J n b a
  | 0, _, _, h, _ => h.elim
  | n + 1, a, b, ha, hb => by
    have ec := eqv_comm ha hb
    have same : PyData.eqv a b = true → a = b := fun h => (eqv_iff a b ha.nice.c hb.nice.c).mp h
    have strc : ∀ x, a = .str x → J (n + 1) a b = J (n + 1) b a := fun x e => by
      subst e
      rw [J_strl, J_strr, ← ec]
      cases he : PyData.eqv (.str x) b with
      | true => rw [← same he]
      | false => rfl
    have strc2 : ∀ x, b = .str x → J (n + 1) a b = J (n + 1) b a := fun x e => by
      subst e
      rw [J_strl, J_strr, ← ec]
      cases he : PyData.eqv a (.str x) with
      | true => rw [same he]
      | false => rfl
    rcases ha with ⟨x, rfl, hx⟩ | rfl | ⟨e, rfl, he⟩ | ⟨es, rfl, e1, e2, e3⟩
    · exact strc x rfl
    · rcases hb with ⟨x, rfl, hx⟩ | rfl | ⟨e', rfl, hf⟩ | ⟨es', rfl, f1, f2, f3⟩
      · exact strc2 x rfl
      · rfl
      · rw [J_nl (.inr hf), J_nr (.inr hf)]
      · rw [J_sr, J_rs]
    · rcases hb with ⟨x, rfl, hx⟩ | rfl | ⟨e', rfl, hf⟩ | ⟨es', rfl, f1, f2, f3⟩
      · exact strc2 x rfl
      · rw [J_nl (.inr he), J_nr (.inr he)]
      · rw [J_stK he hf, J_stK hf he, J_comm he hf]
      · rw [J_sr, J_rs]
    · rcases hb with ⟨x, rfl, hx⟩ | rfl | ⟨e', rfl, hf⟩ | ⟨es', rfl, f1, f2, f3⟩
      · exact strc2 x rfl
      · rw [J_sr, J_rs]
      · rw [J_sr, J_rs]
      · by_cases l : es.length = es'.length
        · rw [J_rwK e3 f3 l, J_rwK f3 e3 l.symm, Jl_comm (fun a b h1 h2 => J_comm h1 h2) e3 f3]
        · rw [J_rw, J_rw, if_neg l, if_neg (Ne.symm l), ← ec]
          cases he : PyData.eqv (Rw es) (Rw es') with
          | true => exact absurd (congrArg List.length (rw_inj (same he))) l
          | false => rfl
/-! ### loosenings of one kind -/
theorem LoL.nil {R : PyData → PyData → Prop} : LoL R [] [] := ⟨rfl, by simp⟩
theorem LoL.cons {R : PyData → PyData → Prop} {d e : PyData} {ds es : List PyData} (h : R d e) (t : LoL R ds es) : LoL R (d :: ds) (e :: es) := by
  refine ⟨by simp [t.1], fun i x y hx hy => ?_⟩
  cases i with
  | zero => simp at hx hy; subst hx hy; exact h
  | succ i => exact t.2 i x y (by simpa using hx) (by simpa using hy)
theorem LoL.inv {R : PyData → PyData → Prop} {d : PyData} {ds es : List PyData} (h : LoL R (d :: ds) es) : ∃ e es', es = e :: es' ∧ R d e ∧ LoL R ds es' := by
  obtain ⟨l, p⟩ := h
  cases es with
  | nil => simp at l
  | cons e es' => exact ⟨e, es', rfl, p 0 d e rfl rfl, by simpa using l, fun i x y hx hy => p (i + 1) x y (by simpa using hx) (by simpa using hy)⟩
theorem LoL.inv0 {R : PyData → PyData → Prop} {es : List PyData} (h : LoL R [] es) : es = [] := by
  cases es with
  | nil => rfl
  | cons _ _ => have := h.1; simp at this
def As (m : Nat) (o a b c : PyData) : Prop := ∃ ab bc r, J m a b = some ab ∧ J m b c = some bc ∧ J m ab c = some r ∧ J m a bc = some r ∧ Lo m o ab ∧ Lo m o bc ∧ Lo m o r
theorem assocL {m : Nat} (ih : ∀ o a b c, Kd m o → Lo m o a → Lo m o b → Lo m o c → As m o a b c) : ∀ (ds as bs cs : List PyData), (∀ d ∈ ds, Kd m d) → LoL (Lo m) ds as → LoL (Lo m) ds bs → LoL (Lo m) ds cs →
    ∃ abs bcs rs, Jl (J m) as bs = some abs ∧ Jl (J m) bs cs = some bcs ∧ Jl (J m) abs cs = some rs ∧ Jl (J m) as bcs = some rs ∧ LoL (Lo m) ds abs ∧ LoL (Lo m) ds bcs ∧ LoL (Lo m) ds rs
  | [], as, bs, cs, _, ha, hb, hc => by
    have := ha.inv0; have := hb.inv0; have := hc.inv0
    subst as bs cs
    exact ⟨[], [], [], rfl, rfl, rfl, rfl, LoL.nil, LoL.nil, LoL.nil⟩
  | d :: ds, as, bs, cs, hd, ha, hb, hc => by
    obtain ⟨a, as, rfl, a1, a2⟩ := ha.inv
    obtain ⟨b, bs, rfl, b1, b2⟩ := hb.inv
    obtain ⟨c, cs, rfl, c1, c2⟩ := hc.inv
    obtain ⟨ab, bc, r, h1, h2, h3, h4, h5, h6, h7⟩ := ih d a b c (hd d List.mem_cons_self) a1 b1 c1
    obtain ⟨abs, bcs, rs, g1, g2, g3, g4, g5, g6, g7⟩ := assocL ih ds as bs cs (fun x hx => hd x (List.mem_cons_of_mem _ hx)) a2 b2 c2
    exact ⟨ab :: abs, bc :: bcs, r :: rs, by simp only [Jl, h1, g1], by simp only [Jl, h2, g2], by simp only [Jl, h3, g3], by simp only [Jl, h4, g4], LoL.cons h5 g5, LoL.cons h6 g6, LoL.cons h7 g7⟩
theorem LoL.kd {m : Nat} {ds es : List PyData} (hd : ∀ d ∈ ds, Kd m d) (h : LoL (Lo m) ds es) : ∀ e ∈ es, Kd m e := fun e he => by
  obtain ⟨i, hi⟩ := List.getElem?_of_mem he
  have hlt : i < ds.length := by rw [h.1]; exact (List.getElem?_eq_some_iff.mp hi).1
  exact Lo.kd (hd _ (List.getElem_mem hlt)) (h.2 i _ e (List.getElem?_eq_getElem hlt) hi)
theorem lo_str {m : Nat} {x : Str} {l : PyData} (h : Lo (m + 1) (.str x) l) : l = .str x := by
  rcases h with ⟨y, e, rfl⟩ | ⟨d, e, rfl⟩ | ⟨d, e, h, _⟩ | ⟨ds, es, h, _⟩
  · cases e; rfl
  · cases e
  · cases h
  · cases h
theorem lo_rw {m : Nat} {ds : List PyData} {l : PyData} (h : Lo (m + 1) (Rw ds) l) : ∃ es, l = Rw es ∧ LoL (Lo m) ds es := by
  rcases h with ⟨y, e, rfl⟩ | ⟨d, e, rfl⟩ | ⟨d, e, h, _⟩ | ⟨ds', es, h, h1, h2⟩
  · cases e
  · exact absurd e.symm st_ne_rw
  · exact absurd h.symm st_ne_rw
  · have := rw_inj h; subst this
    exact ⟨es, h1, h2⟩
theorem lo_st {m : Nat} {d l : PyData} (h : Lo (m + 1) (St d) l) : l = St .none ∨ ∃ e, l = St e ∧ isNone d = false ∧ Lo m d e := by
  rcases h with ⟨y, e, rfl⟩ | ⟨d, e, rfl⟩ | ⟨d', e, h, h1, h2, h3⟩ | ⟨ds', es, h, h1, h2⟩
  · cases e
  · exact .inl rfl
  · have := st_inj h; subst this
    exact .inr ⟨e, h1, h2, h3⟩
  · exact absurd h st_ne_rw
theorem assoc : ∀ (m : Nat) (o a b c : PyData), Kd m o → Lo m o a → Lo m o b → Lo m o c → As m o a b c
  | 0, _, _, _, _, h, _, _, _ => h.elim
  | m + 1, o, a, b, c, ho, ha, hb, hc => by
    have ko := ho
    rcases ho with ⟨x, rfl, hx⟩ | rfl | ⟨d, rfl, hd⟩ | ⟨ds, rfl, d1, d2, d3⟩
    · have := lo_str ha; have := lo_str hb; have := lo_str hc
      subst a b c
      have s := J_self ko
      exact ⟨_, _, _, s, s, s, s, ha, ha, ha⟩
    · have nn : ∀ l, Lo (m + 1) (St .none) l → l = St .none := fun l h => by
        rcases lo_st h with h | ⟨e, _, h, _⟩
        · exact h
        · cases h
      have := nn _ ha; have := nn _ hb; have := nn _ hc
      subst a b c
      exact ⟨_, _, _, J_nl (.inl rfl), J_nl (.inl rfl), J_nl (.inl rfl), J_nl (.inl rfl), ha, ha, ha⟩
    · have L0 : Lo (m + 1) (St d) (St .none) := .inr (.inl ⟨d, rfl, rfl⟩)
      have L1 : ∀ e, Lo m d e → Lo (m + 1) (St d) (St e) := fun e h => .inr (.inr (.inl ⟨d, e, rfl, rfl, hd.notNone, h⟩))
      have N0 : J (m + 1) (St .none) (St .none) = some (St .none) := J_nl (.inl rfl)
      have NL : ∀ e, Lo m d e → J (m + 1) (St .none) (St e) = some (St e) := fun e h => J_nl (.inr (h.kd hd))
      have NR : ∀ e, Lo m d e → J (m + 1) (St e) (St .none) = some (St e) := fun e h => J_nr (.inr (h.kd hd))
      have JJ : ∀ e f g, Lo m d e → Lo m d f → J m e f = some g → J (m + 1) (St e) (St f) = some (St g) := fun e f g h1 h2 h => by rw [J_stK (h1.kd hd) (h2.kd hd), h]; rfl
      rcases lo_st ha with rfl | ⟨e, rfl, _, he⟩ <;> rcases lo_st hb with rfl | ⟨f, rfl, _, hf⟩ <;> rcases lo_st hc with rfl | ⟨g, rfl, _, hg⟩
      · exact ⟨_, _, _, N0, N0, N0, N0, L0, L0, L0⟩
      · exact ⟨_, _, _, N0, NL g hg, NL g hg, NL g hg, L0, L1 g hg, L1 g hg⟩
      · exact ⟨_, _, _, NL f hf, NR f hf, NR f hf, NL f hf, L1 f hf, L1 f hf, L1 f hf⟩
      · obtain ⟨fg, _, _, h1, _, _, _, h5, _⟩ := assoc m d f g g hd hf hg hg
        exact ⟨_, _, _, NL f hf, JJ f g fg hf hg h1, JJ f g fg hf hg h1, NL fg h5, L1 f hf, L1 fg h5, L1 fg h5⟩
      · exact ⟨_, _, _, NR e he, N0, NR e he, NR e he, L1 e he, L0, L1 e he⟩
      · obtain ⟨eg, _, _, h1, _, _, _, h5, _⟩ := assoc m d e g g hd he hg hg
        exact ⟨_, _, _, NR e he, NL g hg, JJ e g eg he hg h1, JJ e g eg he hg h1, L1 e he, L1 g hg, L1 eg h5⟩
      · obtain ⟨ef, _, _, h1, _, _, _, h5, _⟩ := assoc m d e f f hd he hf hf
        exact ⟨_, _, _, JJ e f ef he hf h1, NR f hf, NR ef h5, JJ e f ef he hf h1, L1 ef h5, L1 f hf, L1 ef h5⟩
      · obtain ⟨ef, fg, r, h1, h2, h3, h4, h5, h6, h7⟩ := assoc m d e f g hd he hf hg
        exact ⟨_, _, _, JJ e f ef he hf h1, JJ f g fg hf hg h2, JJ ef g r h5 hg h3, JJ e fg r he h6 h4, L1 ef h5, L1 fg h6, L1 r h7⟩
    · obtain ⟨as, rfl, a1⟩ := lo_rw ha
      obtain ⟨bs, rfl, b1⟩ := lo_rw hb
      obtain ⟨cs, rfl, c1⟩ := lo_rw hc
      obtain ⟨abs, bcs, rs, g1, g2, g3, g4, g5, g6, g7⟩ := assocL (fun o a b c h1 h2 h3 h4 => assoc m o a b c h1 h2 h3 h4) ds as bs cs d3 a1 b1 c1
      have JJ : ∀ xs ys zs, LoL (Lo m) ds xs → LoL (Lo m) ds ys → Jl (J m) xs ys = some zs → J (m + 1) (Rw xs) (Rw ys) = some (Rw zs) := fun xs ys zs h1 h2 h => by
        rw [J_rwK (h1.kd d3) (h2.kd d3) (by rw [← h1.1, h2.1]), h]; rfl
      have L1 : ∀ xs, LoL (Lo m) ds xs → Lo (m + 1) (Rw ds) (Rw xs) := fun xs h => .inr (.inr (.inr ⟨ds, xs, rfl, rfl, h⟩))
      exact ⟨_, _, _, JJ as bs abs a1 b1 g1, JJ bs cs bcs b1 c1 g2, JJ abs cs rs g5 c1 g3, JJ as bcs rs a1 g6 g4, L1 abs g5, L1 bcs g6, L1 rs g7⟩
/-- the three rotations agree -/
theorem rots {m : Nat} {o a b c : PyData} (ho : Kd m o) (ha : Lo m o a) (hb : Lo m o b) (hc : Lo m o c) : ∃ ab bc ca r, J m a b = some ab ∧ J m b c = some bc ∧ J m c a = some ca ∧ J m ab c = some r ∧ J m bc a = some r ∧ J m ca b = some r ∧ Kd m ab ∧ Kd m bc ∧ Kd m ca ∧ Kd m r := by
  obtain ⟨ab, bc, r, h1, h2, h3, h4, h5, h6, h7⟩ := assoc m o a b c ho ha hb hc
  obtain ⟨ac, cb, s, g1, g2, g3, g4, g5, g6, g7⟩ := assoc m o a c b ho ha hc hb
  have ka := ha.kd ho; have kb := hb.kd ho; have kc := hc.kd ho
  have e : cb = bc := by rw [J_comm kc kb, h2] at g2; exact (Option.some.inj g2).symm
  subst e
  have e : s = r := by rw [g4] at h4; exact Option.some.inj h4
  subst e
  exact ⟨ab, cb, ac, s, h1, h2, by rw [J_comm kc ka]; exact g1, h3, by rw [J_comm (h6.kd ho) ka]; exact h4, g3, h5.kd ho, h6.kd ho, g5.kd ho, h7.kd ho⟩
end K06

set_option maxHeartbeats 4000000
/-! k06: what else is drawn: deep kinds, changed kinds. -/
namespace K06
open PySem TA TM
theorem wdraw {n : Nat} {c : Int} {q : Dk} {m : Nat} {Q : DV → OD → Prop} (hm : 0 < m) (h2 : m < 1073741824) (h : DkOk c q) (hc : c < 1000000000) (hQ : ∀ (w : Nat) q', w < m → DkOk (c + 1) q' → Q (.d (.int w)) (some q')) : Wp (callD Pg (n + 1) 6 [.dk, .d (.int m)] (some q)) Q := by
  obtain ⟨r, q', e, h3, h4⟩ := drawN n c q m hm h2 h hc
  exact wp_eq e (hQ r q' h3 h4)
theorem wpick {n : Nat} {c : Int} {q : Dk} {xs : List PyData} {Q : DV → OD → Prop} (h0 : xs ≠ []) (h1 : xs.length < 1073741824) (h : DkOk c q) (hc : c < 1000000000) (hQ : ∀ x q', x ∈ xs → DkOk (c + 1) q' → Q (.d x) (some q')) : Wp (callD Pg (n + 2) 7 [.dk, .d (.list xs)] (some q)) Q := by
  obtain ⟨r, q', e, h3, h4⟩ := pick n c q xs h0 h1 h hc
  exact wp_eq e (hQ r q' h3 h4)
theorem wkind {n s r : Nat} {c : Int} {q : Dk} {Q : DV → OD → Prop} (hn : s + r + 3 ≤ n) (h : DkOk c q) (hc : c + BK s r < 1000000000) (hQ : ∀ d q', (∀ m, s + r < m → isK m s r d = true) → DkOk (c + BK s r) q' → Q (.d d) (some q')) : Wp (callD Pg n 8 [.dk, .d (.int s), .d (.int r)] (some q)) Q := by
  obtain ⟨d, q', e, h3, h4⟩ := kindg n s r c q hn h hc
  exact wp_eq e (hQ d q' h3 h4)
theorem sIxN (n d i : Nat) : HT.sIx n d (some (i : Int)) = min i n := HT.sIx_nat _ _ i
theorem slBn {xs : List PyData} {i : Nat} : slBV (.tuple xs) (.int i) = some (.d (.tuple (xs.take i))) := by
  have e : cutL xs none (some (i : Int)) = xs.take i := by
    unfold cutL
    rw [HT.sIx_none, sIxN, List.drop_zero, Nat.sub_zero, List.take_eq_take_iff]
    omega
  simp only [slBV, intD, Option.bind_some, slD, e]
theorem slAn {xs : List PyData} {i : Nat} : slAV (.tuple xs) (.int i) = some (.d (.tuple (xs.drop i))) := by
  have e : cutL xs (some (i : Int)) none = xs.drop i := by
    unfold cutL
    rw [HT.sIx_none, sIxN]
    by_cases h : i ≤ xs.length
    · rw [Nat.min_eq_left h]
      exact List.take_of_length_le (by rw [List.length_drop]; omega)
    · rw [Nat.min_eq_right (by omega), List.drop_eq_nil_of_le (by omega : xs.length ≤ i)]
      simp
  simp only [slAV, intD, Option.bind_some, slD, e]
theorem addN1 {r : Nat} : binD .Add (.int r) (.int 1) = some (.d (.int ((r + 1 : Nat) : Int))) := by
  simp only [binD]; push_cast; rfl
theorem tupAdd {xs ys : List PyData} (h : xs.length + ys.length ≤ 10000000) : binD .Add (.tuple xs) (.tuple ys) = some (.d (.tuple (xs ++ ys))) := by
  have : (10000000 : Nat) ≤ sizeLine := by decide
  simp only [binD]
  rw [if_pos (by omega)]
theorem lstAdd {xs ys : List PyData} (h : xs.length + ys.length ≤ 100000) : binD .Add (.list xs) (.list ys) = some (.own (xs ++ ys)) := by
  have : (100000 : Nat) ≤ sizeLine := by decide
  simp only [binD]
  rw [if_pos (by omega)]
theorem tupMul {xs : List PyData} {k : Nat} (h1 : 1 ≤ k) (h2 : k ≤ 100000) (h : xs.length * k ≤ 100000) : binD .Mult (.tuple xs) (.int k) = some (.d (.tuple (List.replicate k xs).flatten)) := by
  simp only [binD]
  rw [if_pos ⟨by omega, by omega, by simpa using h⟩]
  simp
theorem rep1 {f : PyData} {k : Nat} : (List.replicate k [f]).flatten = List.replicate k f := by
  induction k with
  | zero => rfl
  | succ k ih => rw [List.replicate_succ, List.flatten_cons, ih]; rfl
theorem lstMul {xs : List PyData} {k : Nat} (h2 : k ≤ 100000) (h : xs.length * k ≤ 100000) : binD .Mult (.list xs) (.int k) = some (.own (List.replicate k xs).flatten) := by
  have : (100000 : Nat) ≤ sizeLine := by decide
  simp only [binD]
  rw [if_pos ⟨by omega, by omega, by simp; omega⟩]
  simp
/-! ### a deep kind -/
def isW (w : Str) : PyData → Bool
  | .str v => v == w
  | _ => false
def nW (w : Str) : List PyData → Nat
  | [] => 0
  | x :: r => (if isW w x then 1 else 0) + nW w r
theorem nW_erase {w : Str} : ∀ {xs : List PyData} {i : Nat} {y : PyData}, xs[i]? = some y → nW w (xs.eraseIdx i) + (if isW w y then 1 else 0) = nW w xs
  | [], _, _, h => by simp at h
  | x :: xs, 0, y, h => by simp at h; subst h; simp [nW]; omega
  | x :: xs, i + 1, y, h => by
    have := nW_erase (w := w) (xs := xs) (i := i) (y := y) (by simpa using h)
    simp only [List.eraseIdx_cons_succ, nW]
    omega
theorem shL {m : Nat} {zs : List PyData} (h : ∀ z ∈ zs, PyData.canLay0 z = true ∧ PyData.depth z ≤ m) (l : m + 1 ≤ 64) : SeqAt.shaped (.list zs) = true := by
  have a := lays_iff fun x hx => (h x hx).1
  have b := deps_le fun x hx => (h x hx).2
  have e : PyData.depth (.list zs) ≤ 64 := by rw [PyData.depth]; omega
  simp only [SeqAt.shaped, PyData.canLay0, a, Bool.true_and, decide_eq_true_eq, e]
theorem neNil {zs : List PyData} (h : SeqAt.shaped (.list zs) = true) : cmpD .NotEq (.list zs) (.list []) = some (!zs.isEmpty) := by
  have e : SeqAt.shaped (.list []) = true := rfl
  cases zs <;> simp [cmpD, h, e, PyData.eqv, PyData.eqvAll]
theorem isK_st {m s r : Nat} {d : PyData} (h : isK m s r d = true) : isK (m + 1) (s + 1) r (St d) = true := by
  unfold isK
  simp [h]
theorem isK_rw {m s r : Nat} {ds : List PyData} (h : ∀ d ∈ ds, isK m s r d = true) (h1 : 1 ≤ ds.length) (h4 : ds.length ≤ 4) : isK (m + 1) s (r + 1) (Rw ds) = true := by
  unfold isK
  simp only [setrow.symm, if_false, Nat.zero_lt_succ, and_self, if_true, Nat.add_sub_cancel, Bool.and_eq_true, decide_eq_true_eq, List.all_eq_true, h1, h4, true_and]
  exact h
structure DeepI (c : Int) (m : Nat) (ρ : TA.Env) (k : OD) : Prop where
  ex : ∃ f left x q, ρ = [some .dk, some (.d f), some (.own left), x] ∧ k = some q ∧ left.length = m ∧ (∀ y ∈ left, y = .str "set" ∨ y = .str "row") ∧ nW "set" left ≤ 3 ∧ nW "row" left ≤ 3 ∧
    (∀ m', 6 < m' + m → isK m' (3 - nW "set" left) (3 - nW "row" left) f = true) ∧ DkOk (c + 2 * (6 - m : Nat)) q ∧ m ≤ 6
theorem deep (n : Nat) (c : Int) (q : Dk) {Q : DV → OD → Prop} (h : DkOk c q) (hc : c + 13 < 1000000000) (hQ : ∀ d q', (∀ m, 6 < m → isK m 3 3 d = true) → DkOk (c + 13) q' → Q (.d d) (some q')) : Wp (callD Pg (n + 3) 9 [.dk] (some q)) Q := by
  show Wp (endOf (evSs (CX (n + 2)) b9 [some .dk, none, none, none] (some q))) Q
  unfold b9
  simp only [bO_some, bO_none, lO_some, lO_none, iB_t, iB_f, thn_nx, thn_rt, thn_bk, thn_ct, endOf_rt, endOf_nx, kLift_a, kOk_a, kO2_a, kIte_t, kIte_f, kIfe_t, kIfe_f, kCall_a, kArgs_a, kArgs2_a, kVals_a, kVals2_a, kOpd_a, kOpd2_a, kDat_a, kDat2_a, kBV_a, kBV2_tt, kBV2_ff, kBV2_tf, kBV2_ft, kBT_tt, kBT_ff, kBT_tf, kBT_ft, kComp_a, kSrc_a, kChain_a, kChain2_a, kChain3_t, kChain3_f, kSet_a, kPar_a, kUnp_a, kFor_a, gV_d, gV_dk, gO_d, gO_o, var_v, var_o, var_t, oV_d, oV_own, tV_d, tV_own, vB_s, oB_s, non_v, non_o, bl_v, bl_o, bl_t, int_v, int_o, str_v, str_o, glb_v, glb_o, tup_v, tup_o, lst_v, lst_o, bin_v, bin_o, bin_t, cmp_t, cmp_v, cmp_o, isN_t, isN_v, isi_t, isi_v, not_t, bop_v, bop_o, bop_t, ife_v, ife_o, idx_v, idx_o, slA_v, slA_o, slB_v, slB_o, call_v, call_o, call_t, callk_v, blt_v, blt_o, comp_v, comp_o, compIf_v, compIf_o, dict0_v, dict1_v, src_eq, rng1_v, zip_v, chain_t, as_nl, as_cs, ds_nl, ds_cs, os_nl, os_cs, vs_nl, vs_cs, es_nl, es_cs, bv_1, bv_2, bt_1, bt_2, s_nil, s_cons, s_set, s_setLc, s_par, s_unp, s_ite, s_loop, s_frz, s_app, rt_non, rt_bl, rt_int, rt_str, rt_glb, rt_tup, rt_lst, rt_bin, rt_cmp, rt_chain, rt_isN, rt_not, rt_bop, rt_ife, rt_idx, rt_slA, rt_slB, rt_call, rt_callk, rt_blt, rt_comp, rt_compIf, rt_isi, gR_s, rt_var, DV.dat, DV.fz, List.getElem?_cons_zero, List.getElem?_cons_succ, List.set_cons_zero, List.set_cons_succ, Option.map_some, Option.map_none, Option.bind_some, Option.bind_none, List.any_cons, List.any_nil, Bool.or_false, Bool.false_or, Bool.or_true, Bool.true_or, Bool.not_true, Bool.not_false, isTy, bltD, blt1, blt2, truthD, intD, setAll, setMany, slAB_v, slAB_o, kSlAB_a, kSlAB0_a, kSlAB1_a, kSlAB2_a, neg_v, neg_o, kNeg_i, notN_t, not_v, s_aug, kAug_a, s_whil, s_brk, s_cont, s_retN, s_popAt, callk_o, kCallk_a, kCallk2_a, dkey_i, dkey_s, kDict_a, kDictU_a, kDict2_d, wp_some, wp_bO, wp_thn, wp_endOf, wp_oV, wp_tV, wp_vB, wp_oB, kW_a, kT_a, kE_a, kOV_a, kTV_a, kVB_a, kOB_a]
  refine wpick (by simp) (by simp) h (by omega) fun f q1 hf hq1 => ?_
  have s3 : binD .Mult (.list [.str "set"]) (.int 3) = some (.own [.str "set", .str "set", .str "set"]) := lstMul (k := 3) (by decide) (by decide)
  have r3 : binD .Mult (.list [.str "row"]) (.int 3) = some (.own [.str "row", .str "row", .str "row"]) := lstMul (k := 3) (by decide) (by decide)
  have a6 : binD .Add (.list [.str "set", .str "set", .str "set"]) (.list [.str "row", .str "row", .str "row"]) = some (.own [.str "set", .str "set", .str "set", .str "row", .str "row", .str "row"]) := lstAdd (by decide)
  simp only [bO_some, bO_none, lO_some, lO_none, iB_t, iB_f, thn_nx, thn_rt, thn_bk, thn_ct, endOf_rt, endOf_nx, kLift_a, kOk_a, kO2_a, kIte_t, kIte_f, kIfe_t, kIfe_f, kCall_a, kArgs_a, kArgs2_a, kVals_a, kVals2_a, kOpd_a, kOpd2_a, kDat_a, kDat2_a, kBV_a, kBV2_tt, kBV2_ff, kBV2_tf, kBV2_ft, kBT_tt, kBT_ff, kBT_tf, kBT_ft, kComp_a, kSrc_a, kChain_a, kChain2_a, kChain3_t, kChain3_f, kSet_a, kPar_a, kUnp_a, kFor_a, gV_d, gV_dk, gO_d, gO_o, var_v, var_o, var_t, oV_d, oV_own, tV_d, tV_own, vB_s, oB_s, non_v, non_o, bl_v, bl_o, bl_t, int_v, int_o, str_v, str_o, glb_v, glb_o, tup_v, tup_o, lst_v, lst_o, bin_v, bin_o, bin_t, cmp_t, cmp_v, cmp_o, isN_t, isN_v, isi_t, isi_v, not_t, bop_v, bop_o, bop_t, ife_v, ife_o, idx_v, idx_o, slA_v, slA_o, slB_v, slB_o, call_v, call_o, call_t, callk_v, blt_v, blt_o, comp_v, comp_o, compIf_v, compIf_o, dict0_v, dict1_v, src_eq, rng1_v, zip_v, chain_t, as_nl, as_cs, ds_nl, ds_cs, os_nl, os_cs, vs_nl, vs_cs, es_nl, es_cs, bv_1, bv_2, bt_1, bt_2, s_nil, s_cons, s_set, s_setLc, s_par, s_unp, s_ite, s_loop, s_frz, s_app, rt_non, rt_bl, rt_int, rt_str, rt_glb, rt_tup, rt_lst, rt_bin, rt_cmp, rt_chain, rt_isN, rt_not, rt_bop, rt_ife, rt_idx, rt_slA, rt_slB, rt_call, rt_callk, rt_blt, rt_comp, rt_compIf, rt_isi, gR_s, rt_var, DV.dat, DV.fz, List.getElem?_cons_zero, List.getElem?_cons_succ, List.set_cons_zero, List.set_cons_succ, Option.map_some, Option.map_none, Option.bind_some, Option.bind_none, List.any_cons, List.any_nil, Bool.or_false, Bool.false_or, Bool.or_true, Bool.true_or, Bool.not_true, Bool.not_false, isTy, bltD, blt1, blt2, truthD, intD, setAll, setMany, slAB_v, slAB_o, kSlAB_a, kSlAB0_a, kSlAB1_a, kSlAB2_a, neg_v, neg_o, kNeg_i, notN_t, not_v, s_aug, kAug_a, s_whil, s_brk, s_cont, s_retN, s_popAt, callk_o, kCallk_a, kCallk2_a, dkey_i, dkey_s, kDict_a, kDictU_a, kDict2_d, wp_some, wp_bO, wp_thn, wp_endOf, wp_oV, wp_tV, wp_vB, wp_oB, kW_a, kT_a, kE_a, kOV_a, kTV_a, kVB_a, kOB_a, s3, r3, a6]
  refine wp_while (DeepI (c + 1)) 6 20 _ _ _ (by decide) ⟨f, [.str "set", .str "set", .str "set", .str "row", .str "row", .str "row"], _, q1, rfl, rfl, rfl, by simp, by decide +kernel, by decide +kernel, fun m' hm' => isK_plain hf (by omega), hq1.mono (by omega), by omega⟩ fun m ρ k hi => ?_
  obtain ⟨f, left, x, q, rfl, rfl, hl, hw, h1, h2, h3, h4, h5⟩ := hi.ex
  have sh : SeqAt.shaped (.list left) = true := shL (m := 0) (fun z hz => by
    rcases hw z hz with rfl | rfl
    · exact ⟨by decide +kernel, by simp [PyData.depth]⟩
    · exact ⟨by decide +kernel, by simp [PyData.depth]⟩) (by decide)
  simp only [b9_0, bO_some, bO_none, lO_some, lO_none, iB_t, iB_f, thn_nx, thn_rt, thn_bk, thn_ct, endOf_rt, endOf_nx, kLift_a, kOk_a, kO2_a, kIte_t, kIte_f, kIfe_t, kIfe_f, kCall_a, kArgs_a, kArgs2_a, kVals_a, kVals2_a, kOpd_a, kOpd2_a, kDat_a, kDat2_a, kBV_a, kBV2_tt, kBV2_ff, kBV2_tf, kBV2_ft, kBT_tt, kBT_ff, kBT_tf, kBT_ft, kComp_a, kSrc_a, kChain_a, kChain2_a, kChain3_t, kChain3_f, kSet_a, kPar_a, kUnp_a, kFor_a, gV_d, gV_dk, gO_d, gO_o, var_v, var_o, var_t, oV_d, oV_own, tV_d, tV_own, vB_s, oB_s, non_v, non_o, bl_v, bl_o, bl_t, int_v, int_o, str_v, str_o, glb_v, glb_o, tup_v, tup_o, lst_v, lst_o, bin_v, bin_o, bin_t, cmp_t, cmp_v, cmp_o, isN_t, isN_v, isi_t, isi_v, not_t, bop_v, bop_o, bop_t, ife_v, ife_o, idx_v, idx_o, slA_v, slA_o, slB_v, slB_o, call_v, call_o, call_t, callk_v, blt_v, blt_o, comp_v, comp_o, compIf_v, compIf_o, dict0_v, dict1_v, src_eq, rng1_v, zip_v, chain_t, as_nl, as_cs, ds_nl, ds_cs, os_nl, os_cs, vs_nl, vs_cs, es_nl, es_cs, bv_1, bv_2, bt_1, bt_2, s_nil, s_cons, s_set, s_setLc, s_par, s_unp, s_ite, s_loop, s_frz, s_app, rt_non, rt_bl, rt_int, rt_str, rt_glb, rt_tup, rt_lst, rt_bin, rt_cmp, rt_chain, rt_isN, rt_not, rt_bop, rt_ife, rt_idx, rt_slA, rt_slB, rt_call, rt_callk, rt_blt, rt_comp, rt_compIf, rt_isi, gR_s, rt_var, DV.dat, DV.fz, List.getElem?_cons_zero, List.getElem?_cons_succ, List.set_cons_zero, List.set_cons_succ, Option.map_some, Option.map_none, Option.bind_some, Option.bind_none, List.any_cons, List.any_nil, Bool.or_false, Bool.false_or, Bool.or_true, Bool.true_or, Bool.not_true, Bool.not_false, isTy, bltD, blt1, blt2, truthD, intD, setAll, setMany, slAB_v, slAB_o, kSlAB_a, kSlAB0_a, kSlAB1_a, kSlAB2_a, neg_v, neg_o, kNeg_i, notN_t, not_v, s_aug, kAug_a, s_whil, s_brk, s_cont, s_retN, s_popAt, callk_o, kCallk_a, kCallk2_a, dkey_i, dkey_s, kDict_a, kDictU_a, kDict2_d, wp_some, wp_bO, wp_thn, wp_endOf, wp_oV, wp_tV, wp_vB, wp_oB, kW_a, kT_a, kE_a, kOV_a, kTV_a, kVB_a, kOB_a, neNil sh]
  cases left with
  | nil =>
    simp only [List.isEmpty_nil, Bool.not_true, bO_some, bO_none, lO_some, lO_none, iB_t, iB_f, thn_nx, thn_rt, thn_bk, thn_ct, endOf_rt, endOf_nx, kLift_a, kOk_a, kO2_a, kIte_t, kIte_f, kIfe_t, kIfe_f, kCall_a, kArgs_a, kArgs2_a, kVals_a, kVals2_a, kOpd_a, kOpd2_a, kDat_a, kDat2_a, kBV_a, kBV2_tt, kBV2_ff, kBV2_tf, kBV2_ft, kBT_tt, kBT_ff, kBT_tf, kBT_ft, kComp_a, kSrc_a, kChain_a, kChain2_a, kChain3_t, kChain3_f, kSet_a, kPar_a, kUnp_a, kFor_a, gV_d, gV_dk, gO_d, gO_o, var_v, var_o, var_t, oV_d, oV_own, tV_d, tV_own, vB_s, oB_s, non_v, non_o, bl_v, bl_o, bl_t, int_v, int_o, str_v, str_o, glb_v, glb_o, tup_v, tup_o, lst_v, lst_o, bin_v, bin_o, bin_t, cmp_t, cmp_v, cmp_o, isN_t, isN_v, isi_t, isi_v, not_t, bop_v, bop_o, bop_t, ife_v, ife_o, idx_v, idx_o, slA_v, slA_o, slB_v, slB_o, call_v, call_o, call_t, callk_v, blt_v, blt_o, comp_v, comp_o, compIf_v, compIf_o, dict0_v, dict1_v, src_eq, rng1_v, zip_v, chain_t, as_nl, as_cs, ds_nl, ds_cs, os_nl, os_cs, vs_nl, vs_cs, es_nl, es_cs, bv_1, bv_2, bt_1, bt_2, s_nil, s_cons, s_set, s_setLc, s_par, s_unp, s_ite, s_loop, s_frz, s_app, rt_non, rt_bl, rt_int, rt_str, rt_glb, rt_tup, rt_lst, rt_bin, rt_cmp, rt_chain, rt_isN, rt_not, rt_bop, rt_ife, rt_idx, rt_slA, rt_slB, rt_call, rt_callk, rt_blt, rt_comp, rt_compIf, rt_isi, gR_s, rt_var, DV.dat, DV.fz, List.getElem?_cons_zero, List.getElem?_cons_succ, List.set_cons_zero, List.set_cons_succ, Option.map_some, Option.map_none, Option.bind_some, Option.bind_none, List.any_cons, List.any_nil, Bool.or_false, Bool.false_or, Bool.or_true, Bool.true_or, Bool.not_true, Bool.not_false, isTy, bltD, blt1, blt2, truthD, intD, setAll, setMany, slAB_v, slAB_o, kSlAB_a, kSlAB0_a, kSlAB1_a, kSlAB2_a, neg_v, neg_o, kNeg_i, notN_t, not_v, s_aug, kAug_a, s_whil, s_brk, s_cont, s_retN, s_popAt, callk_o, kCallk_a, kCallk2_a, dkey_i, dkey_s, kDict_a, kDictU_a, kDict2_d, wp_some, wp_bO, wp_thn, wp_endOf, wp_oV, wp_tV, wp_vB, wp_oB, kW_a, kT_a, kE_a, kOV_a, kTV_a, kVB_a, kOB_a]
    refine hQ f q (fun m' hm' => ?_) (h4.mono (by simp at hl; omega))
    have := h3 m' (by omega)
    simpa [nW] using this
  | cons y0 ys =>
    simp only [List.isEmpty_cons, Bool.not_false]
    refine ⟨by simp at hl; omega, ?_⟩
    have hl6 : (y0 :: ys).length ≤ 6 := by omega
    have hl0 : 0 < (y0 :: ys).length := by simp
    generalize hLe : y0 :: ys = left at *
    simp only [b9_1, bO_some, bO_none, lO_some, lO_none, iB_t, iB_f, thn_nx, thn_rt, thn_bk, thn_ct, endOf_rt, endOf_nx, kLift_a, kOk_a, kO2_a, kIte_t, kIte_f, kIfe_t, kIfe_f, kCall_a, kArgs_a, kArgs2_a, kVals_a, kVals2_a, kOpd_a, kOpd2_a, kDat_a, kDat2_a, kBV_a, kBV2_tt, kBV2_ff, kBV2_tf, kBV2_ft, kBT_tt, kBT_ff, kBT_tf, kBT_ft, kComp_a, kSrc_a, kChain_a, kChain2_a, kChain3_t, kChain3_f, kSet_a, kPar_a, kUnp_a, kFor_a, gV_d, gV_dk, gO_d, gO_o, var_v, var_o, var_t, oV_d, oV_own, tV_d, tV_own, vB_s, oB_s, non_v, non_o, bl_v, bl_o, bl_t, int_v, int_o, str_v, str_o, glb_v, glb_o, tup_v, tup_o, lst_v, lst_o, bin_v, bin_o, bin_t, cmp_t, cmp_v, cmp_o, isN_t, isN_v, isi_t, isi_v, not_t, bop_v, bop_o, bop_t, ife_v, ife_o, idx_v, idx_o, slA_v, slA_o, slB_v, slB_o, call_v, call_o, call_t, callk_v, blt_v, blt_o, comp_v, comp_o, compIf_v, compIf_o, dict0_v, dict1_v, src_eq, rng1_v, zip_v, chain_t, as_nl, as_cs, ds_nl, ds_cs, os_nl, os_cs, vs_nl, vs_cs, es_nl, es_cs, bv_1, bv_2, bt_1, bt_2, s_nil, s_cons, s_set, s_setLc, s_par, s_unp, s_ite, s_loop, s_frz, s_app, rt_non, rt_bl, rt_int, rt_str, rt_glb, rt_tup, rt_lst, rt_bin, rt_cmp, rt_chain, rt_isN, rt_not, rt_bop, rt_ife, rt_idx, rt_slA, rt_slB, rt_call, rt_callk, rt_blt, rt_comp, rt_compIf, rt_isi, gR_s, rt_var, DV.dat, DV.fz, List.getElem?_cons_zero, List.getElem?_cons_succ, List.set_cons_zero, List.set_cons_succ, Option.map_some, Option.map_none, Option.bind_some, Option.bind_none, List.any_cons, List.any_nil, Bool.or_false, Bool.false_or, Bool.or_true, Bool.true_or, Bool.not_true, Bool.not_false, isTy, bltD, blt1, blt2, truthD, intD, setAll, setMany, slAB_v, slAB_o, kSlAB_a, kSlAB0_a, kSlAB1_a, kSlAB2_a, neg_v, neg_o, kNeg_i, notN_t, not_v, s_aug, kAug_a, s_whil, s_brk, s_cont, s_retN, s_popAt, callk_o, kCallk_a, kCallk2_a, dkey_i, dkey_s, kDict_a, kDictU_a, kDict2_d, wp_some, wp_bO, wp_thn, wp_endOf, wp_oV, wp_tV, wp_vB, wp_oB, kW_a, kT_a, kE_a, kOV_a, kTV_a, kVB_a, kOB_a, lenB, lenD]
    refine wdraw hl0 (by omega) h4 (by omega) fun w q2 w1 w2 => ?_
    have hy : left[w]? = some left[w] := List.getElem?_eq_getElem w1
    have hm : left[w] ∈ left := List.getElem_mem w1
    generalize left[w] = y at hy hm
    have er := nW_erase (w := "set") hy
    have er2 := nW_erase (w := "row") hy
    have hl' : (left.eraseIdx w).length = m - 1 := by rw [List.length_eraseIdx, if_pos w1]; omega
    have mem' : ∀ y ∈ left.eraseIdx w, y = .str "set" ∨ y = .str "row" := fun z hz => hw z (List.mem_of_mem_eraseIdx hz)
    have kp : ∀ {ρ : TA.Env} {k : OD}, ρ[2]? = some (some (.own left)) → kPop2 3 2 ρ (.int w) k = some (.nx ((ρ.set 2 (some (.own (left.eraseIdx w)))).set 3 (some (.d y))), k) := fun e => kPop2_a e w1 (by omega) (by decide) hy
    rcases hw y hm with rfl | rfl
    · have d1 : (("set" : Str) == "set") = true := by simp
      simp only [bO_some, bO_none, lO_some, lO_none, iB_t, iB_f, thn_nx, thn_rt, thn_bk, thn_ct, endOf_rt, endOf_nx, kLift_a, kOk_a, kO2_a, kIte_t, kIte_f, kIfe_t, kIfe_f, kCall_a, kArgs_a, kArgs2_a, kVals_a, kVals2_a, kOpd_a, kOpd2_a, kDat_a, kDat2_a, kBV_a, kBV2_tt, kBV2_ff, kBV2_tf, kBV2_ft, kBT_tt, kBT_ff, kBT_tf, kBT_ft, kComp_a, kSrc_a, kChain_a, kChain2_a, kChain3_t, kChain3_f, kSet_a, kPar_a, kUnp_a, kFor_a, gV_d, gV_dk, gO_d, gO_o, var_v, var_o, var_t, oV_d, oV_own, tV_d, tV_own, vB_s, oB_s, non_v, non_o, bl_v, bl_o, bl_t, int_v, int_o, str_v, str_o, glb_v, glb_o, tup_v, tup_o, lst_v, lst_o, bin_v, bin_o, bin_t, cmp_t, cmp_v, cmp_o, isN_t, isN_v, isi_t, isi_v, not_t, bop_v, bop_o, bop_t, ife_v, ife_o, idx_v, idx_o, slA_v, slA_o, slB_v, slB_o, call_v, call_o, call_t, callk_v, blt_v, blt_o, comp_v, comp_o, compIf_v, compIf_o, dict0_v, dict1_v, src_eq, rng1_v, zip_v, chain_t, as_nl, as_cs, ds_nl, ds_cs, os_nl, os_cs, vs_nl, vs_cs, es_nl, es_cs, bv_1, bv_2, bt_1, bt_2, s_nil, s_cons, s_set, s_setLc, s_par, s_unp, s_ite, s_loop, s_frz, s_app, rt_non, rt_bl, rt_int, rt_str, rt_glb, rt_tup, rt_lst, rt_bin, rt_cmp, rt_chain, rt_isN, rt_not, rt_bop, rt_ife, rt_idx, rt_slA, rt_slB, rt_call, rt_callk, rt_blt, rt_comp, rt_compIf, rt_isi, gR_s, rt_var, DV.dat, DV.fz, List.getElem?_cons_zero, List.getElem?_cons_succ, List.set_cons_zero, List.set_cons_succ, Option.map_some, Option.map_none, Option.bind_some, Option.bind_none, List.any_cons, List.any_nil, Bool.or_false, Bool.false_or, Bool.or_true, Bool.true_or, Bool.not_true, Bool.not_false, isTy, bltD, blt1, blt2, truthD, intD, setAll, setMany, slAB_v, slAB_o, kSlAB_a, kSlAB0_a, kSlAB1_a, kSlAB2_a, neg_v, neg_o, kNeg_i, notN_t, not_v, s_aug, kAug_a, s_whil, s_brk, s_cont, s_retN, s_popAt, callk_o, kCallk_a, kCallk2_a, dkey_i, dkey_s, kDict_a, kDictU_a, kDict2_d, wp_some, wp_bO, wp_thn, wp_endOf, wp_oV, wp_tV, wp_vB, wp_oB, kW_a, kT_a, kE_a, kOV_a, kTV_a, kVB_a, kOB_a, kp, eqS, d1]
      rw [if_pos (by decide +kernel)] at er
      rw [if_neg (by decide +kernel)] at er2
      refine ⟨St f, left.eraseIdx w, _, q2, rfl, rfl, hl', mem', by omega, by omega, fun m' hm' => ?_, w2.mono (by omega), by omega⟩
      obtain ⟨m'', rfl⟩ : ∃ k, m' = k + 1 := ⟨m' - 1, by omega⟩
      rw [show 3 - nW "set" (left.eraseIdx w) = (3 - nW "set" left) + 1 by omega, show nW "row" (left.eraseIdx w) = nW "row" left by omega]
      exact isK_st (h3 m'' (by omega))
    · have d1 : (("row" : Str) == "set") = false := beq_eq_false_iff_ne.mpr setrow.symm
      simp only [bO_some, bO_none, lO_some, lO_none, iB_t, iB_f, thn_nx, thn_rt, thn_bk, thn_ct, endOf_rt, endOf_nx, kLift_a, kOk_a, kO2_a, kIte_t, kIte_f, kIfe_t, kIfe_f, kCall_a, kArgs_a, kArgs2_a, kVals_a, kVals2_a, kOpd_a, kOpd2_a, kDat_a, kDat2_a, kBV_a, kBV2_tt, kBV2_ff, kBV2_tf, kBV2_ft, kBT_tt, kBT_ff, kBT_tf, kBT_ft, kComp_a, kSrc_a, kChain_a, kChain2_a, kChain3_t, kChain3_f, kSet_a, kPar_a, kUnp_a, kFor_a, gV_d, gV_dk, gO_d, gO_o, var_v, var_o, var_t, oV_d, oV_own, tV_d, tV_own, vB_s, oB_s, non_v, non_o, bl_v, bl_o, bl_t, int_v, int_o, str_v, str_o, glb_v, glb_o, tup_v, tup_o, lst_v, lst_o, bin_v, bin_o, bin_t, cmp_t, cmp_v, cmp_o, isN_t, isN_v, isi_t, isi_v, not_t, bop_v, bop_o, bop_t, ife_v, ife_o, idx_v, idx_o, slA_v, slA_o, slB_v, slB_o, call_v, call_o, call_t, callk_v, blt_v, blt_o, comp_v, comp_o, compIf_v, compIf_o, dict0_v, dict1_v, src_eq, rng1_v, zip_v, chain_t, as_nl, as_cs, ds_nl, ds_cs, os_nl, os_cs, vs_nl, vs_cs, es_nl, es_cs, bv_1, bv_2, bt_1, bt_2, s_nil, s_cons, s_set, s_setLc, s_par, s_unp, s_ite, s_loop, s_frz, s_app, rt_non, rt_bl, rt_int, rt_str, rt_glb, rt_tup, rt_lst, rt_bin, rt_cmp, rt_chain, rt_isN, rt_not, rt_bop, rt_ife, rt_idx, rt_slA, rt_slB, rt_call, rt_callk, rt_blt, rt_comp, rt_compIf, rt_isi, gR_s, rt_var, DV.dat, DV.fz, List.getElem?_cons_zero, List.getElem?_cons_succ, List.set_cons_zero, List.set_cons_succ, Option.map_some, Option.map_none, Option.bind_some, Option.bind_none, List.any_cons, List.any_nil, Bool.or_false, Bool.false_or, Bool.or_true, Bool.true_or, Bool.not_true, Bool.not_false, isTy, bltD, blt1, blt2, truthD, intD, setAll, setMany, slAB_v, slAB_o, kSlAB_a, kSlAB0_a, kSlAB1_a, kSlAB2_a, neg_v, neg_o, kNeg_i, notN_t, not_v, s_aug, kAug_a, s_whil, s_brk, s_cont, s_retN, s_popAt, callk_o, kCallk_a, kCallk2_a, dkey_i, dkey_s, kDict_a, kDictU_a, kDict2_d, wp_some, wp_bO, wp_thn, wp_endOf, wp_oV, wp_tV, wp_vB, wp_oB, kW_a, kT_a, kE_a, kOV_a, kTV_a, kVB_a, kOB_a, kp, eqS, d1]
      refine wdraw (m := 2) (by decide) (by decide) w2 (by omega) fun z q3 z1 z2 => ?_
      simp only [bO_some, bO_none, lO_some, lO_none, iB_t, iB_f, thn_nx, thn_rt, thn_bk, thn_ct, endOf_rt, endOf_nx, kLift_a, kOk_a, kO2_a, kIte_t, kIte_f, kIfe_t, kIfe_f, kCall_a, kArgs_a, kArgs2_a, kVals_a, kVals2_a, kOpd_a, kOpd2_a, kDat_a, kDat2_a, kBV_a, kBV2_tt, kBV2_ff, kBV2_tf, kBV2_ft, kBT_tt, kBT_ff, kBT_tf, kBT_ft, kComp_a, kSrc_a, kChain_a, kChain2_a, kChain3_t, kChain3_f, kSet_a, kPar_a, kUnp_a, kFor_a, gV_d, gV_dk, gO_d, gO_o, var_v, var_o, var_t, oV_d, oV_own, tV_d, tV_own, vB_s, oB_s, non_v, non_o, bl_v, bl_o, bl_t, int_v, int_o, str_v, str_o, glb_v, glb_o, tup_v, tup_o, lst_v, lst_o, bin_v, bin_o, bin_t, cmp_t, cmp_v, cmp_o, isN_t, isN_v, isi_t, isi_v, not_t, bop_v, bop_o, bop_t, ife_v, ife_o, idx_v, idx_o, slA_v, slA_o, slB_v, slB_o, call_v, call_o, call_t, callk_v, blt_v, blt_o, comp_v, comp_o, compIf_v, compIf_o, dict0_v, dict1_v, src_eq, rng1_v, zip_v, chain_t, as_nl, as_cs, ds_nl, ds_cs, os_nl, os_cs, vs_nl, vs_cs, es_nl, es_cs, bv_1, bv_2, bt_1, bt_2, s_nil, s_cons, s_set, s_setLc, s_par, s_unp, s_ite, s_loop, s_frz, s_app, rt_non, rt_bl, rt_int, rt_str, rt_glb, rt_tup, rt_lst, rt_bin, rt_cmp, rt_chain, rt_isN, rt_not, rt_bop, rt_ife, rt_idx, rt_slA, rt_slB, rt_call, rt_callk, rt_blt, rt_comp, rt_compIf, rt_isi, gR_s, rt_var, DV.dat, DV.fz, List.getElem?_cons_zero, List.getElem?_cons_succ, List.set_cons_zero, List.set_cons_succ, Option.map_some, Option.map_none, Option.bind_some, Option.bind_none, List.any_cons, List.any_nil, Bool.or_false, Bool.false_or, Bool.or_true, Bool.true_or, Bool.not_true, Bool.not_false, isTy, bltD, blt1, blt2, truthD, intD, setAll, setMany, slAB_v, slAB_o, kSlAB_a, kSlAB0_a, kSlAB1_a, kSlAB2_a, neg_v, neg_o, kNeg_i, notN_t, not_v, s_aug, kAug_a, s_whil, s_brk, s_cont, s_retN, s_popAt, callk_o, kCallk_a, kCallk2_a, dkey_i, dkey_s, kDict_a, kDictU_a, kDict2_d, wp_some, wp_bO, wp_thn, wp_endOf, wp_oV, wp_tV, wp_vB, wp_oB, kW_a, kT_a, kE_a, kOV_a, kTV_a, kVB_a, kOB_a, add1N, tupMul (xs := [f]) (k := 1 + z) (by omega) (by omega) (by simp; omega), rep1]
      rw [if_pos (by decide +kernel)] at er2
      rw [if_neg (by decide +kernel)] at er
      refine ⟨Rw (List.replicate (1 + z) f), left.eraseIdx w, _, q3, rfl, rfl, hl', mem', by omega, by omega, fun m' hm' => ?_, z2.mono (by omega), by omega⟩
      obtain ⟨m'', rfl⟩ : ∃ k, m' = k + 1 := ⟨m' - 1, by omega⟩
      rw [show 3 - nW "row" (left.eraseIdx w) = (3 - nW "row" left) + 1 by omega, show nW "set" (left.eraseIdx w) = nW "set" left by omega]
      refine isK_rw (fun d hd => ?_) (by simp) (by simp; omega)
      rw [List.eq_of_mem_replicate hd]
      exact h3 m'' (by omega)
/-! ### a changed kind -/
theorem eq0N {w : Nat} : cmpD .Eq (.int w) (.int 0) = some (decide (w = 0)) := eqN
theorem kd_kind {d : PyData} (h : ∀ m, 1 + 1 < m → isK m 1 1 d = true) : Kd 3 d := isK_kd (h 3 (by decide))
theorem kd_rw {m : Nat} {ds : List PyData} (h1 : ds ≠ []) (h2 : ds.length ≤ 4) (h3 : ∀ d ∈ ds, Kd m d) : Kd (m + 1) (Rw ds) := .inr (.inr (.inr ⟨ds, rfl, h1, h2, h3⟩))
def BC (m : Nat) : Int := 1000 + 3 * m
theorem changed : ∀ (m n : Nat) (o : PyData) (c : Int) (q : Dk) (Q : DV → OD → Prop), m + 5 ≤ n → Kd m o → DkOk c q → c + BC m < 1000000000 →
    (∀ d q', Kd (m + 2) d → DkOk (c + BC m) q' → Q (.d d) (some q')) → Wp (callD Pg n 11 [.dk, .d o] (some q)) Q
  | 0, _, _, _, _, _, _, h, _, _, _ => h.elim
  | m + 1, 0, _, _, _, _, h, _, _, _, _ => by omega
  | m + 1, n + 1, o, c, q, Q, hn, ho, hq, hc, hQ => by
    have bc : BC (m + 1) = BC m + 3 := by unfold BC; push_cast; omega
    have bc0 : 1000 ≤ BC m := by unfold BC; omega
    have bk : BK 1 1 = 360 := by decide
    show Wp (endOf (evSs (CX n) b11 [some .dk, some (.d o), none] (some q))) Q
    have kindc : ∀ c1 q1, DkOk c1 q1 → c1 ≤ c + 1 → Wp (callD Pg n 8 [.dk, .d (.int 1), .d (.int 1)] (some q1)) Q := fun c1 q1 h1 l1 =>
      wkind (s := 1) (r := 1) (by omega) h1 (by omega) fun d q' h2 h3 => hQ d q' ((kd_kind h2).mono (by omega)) (h3.mono (by omega))
    obtain ⟨n, rfl⟩ : ∃ k, n = k + 1 := ⟨n - 1, by omega⟩
    unfold b11
    rcases ho with ⟨x, rfl, hx⟩ | rfl | ⟨e, rfl, he⟩ | ⟨es, rfl, e1, e2, e3⟩
    · simp only [bO_some, bO_none, lO_some, lO_none, iB_t, iB_f, thn_nx, thn_rt, thn_bk, thn_ct, endOf_rt, endOf_nx, kLift_a, kOk_a, kO2_a, kIte_t, kIte_f, kIfe_t, kIfe_f, kCall_a, kArgs_a, kArgs2_a, kVals_a, kVals2_a, kOpd_a, kOpd2_a, kDat_a, kDat2_a, kBV_a, kBV2_tt, kBV2_ff, kBV2_tf, kBV2_ft, kBT_tt, kBT_ff, kBT_tf, kBT_ft, kComp_a, kSrc_a, kChain_a, kChain2_a, kChain3_t, kChain3_f, kSet_a, kPar_a, kUnp_a, kFor_a, gV_d, gV_dk, gO_d, gO_o, var_v, var_o, var_t, oV_d, oV_own, tV_d, tV_own, vB_s, oB_s, non_v, non_o, bl_v, bl_o, bl_t, int_v, int_o, str_v, str_o, glb_v, glb_o, tup_v, tup_o, lst_v, lst_o, bin_v, bin_o, bin_t, cmp_t, cmp_v, cmp_o, isN_t, isN_v, isi_t, isi_v, not_t, bop_v, bop_o, bop_t, ife_v, ife_o, idx_v, idx_o, slA_v, slA_o, slB_v, slB_o, call_v, call_o, call_t, callk_v, blt_v, blt_o, comp_v, comp_o, compIf_v, compIf_o, dict0_v, dict1_v, src_eq, rng1_v, zip_v, chain_t, as_nl, as_cs, ds_nl, ds_cs, os_nl, os_cs, vs_nl, vs_cs, es_nl, es_cs, bv_1, bv_2, bt_1, bt_2, s_nil, s_cons, s_set, s_setLc, s_par, s_unp, s_ite, s_loop, s_frz, s_app, rt_non, rt_bl, rt_int, rt_str, rt_glb, rt_tup, rt_lst, rt_bin, rt_cmp, rt_chain, rt_isN, rt_not, rt_bop, rt_ife, rt_idx, rt_slA, rt_slB, rt_call, rt_callk, rt_blt, rt_comp, rt_compIf, rt_isi, gR_s, rt_var, DV.dat, DV.fz, List.getElem?_cons_zero, List.getElem?_cons_succ, List.set_cons_zero, List.set_cons_succ, Option.map_some, Option.map_none, Option.bind_some, Option.bind_none, List.any_cons, List.any_nil, Bool.or_false, Bool.false_or, Bool.or_true, Bool.true_or, Bool.not_true, Bool.not_false, isTy, bltD, blt1, blt2, truthD, intD, setAll, setMany, slAB_v, slAB_o, kSlAB_a, kSlAB0_a, kSlAB1_a, kSlAB2_a, neg_v, neg_o, kNeg_i, notN_t, not_v, s_aug, kAug_a, s_whil, s_brk, s_cont, s_retN, s_popAt, callk_o, kCallk_a, kCallk2_a, dkey_i, dkey_s, kDict_a, kDictU_a, kDict2_d, wp_some, wp_bO, wp_thn, wp_endOf, wp_oV, wp_tV, wp_vB, wp_oB, kW_a, kT_a, kE_a, kOV_a, kTV_a, kVB_a, kOB_a]
      refine (kindc c q hq (by omega)).mono fun v k h => ?_
      simp only [bO_some, bO_none, lO_some, lO_none, iB_t, iB_f, thn_nx, thn_rt, thn_bk, thn_ct, endOf_rt, endOf_nx, kLift_a, kOk_a, kO2_a, kIte_t, kIte_f, kIfe_t, kIfe_f, kCall_a, kArgs_a, kArgs2_a, kVals_a, kVals2_a, kOpd_a, kOpd2_a, kDat_a, kDat2_a, kBV_a, kBV2_tt, kBV2_ff, kBV2_tf, kBV2_ft, kBT_tt, kBT_ff, kBT_tf, kBT_ft, kComp_a, kSrc_a, kChain_a, kChain2_a, kChain3_t, kChain3_f, kSet_a, kPar_a, kUnp_a, kFor_a, gV_d, gV_dk, gO_d, gO_o, var_v, var_o, var_t, oV_d, oV_own, tV_d, tV_own, vB_s, oB_s, non_v, non_o, bl_v, bl_o, bl_t, int_v, int_o, str_v, str_o, glb_v, glb_o, tup_v, tup_o, lst_v, lst_o, bin_v, bin_o, bin_t, cmp_t, cmp_v, cmp_o, isN_t, isN_v, isi_t, isi_v, not_t, bop_v, bop_o, bop_t, ife_v, ife_o, idx_v, idx_o, slA_v, slA_o, slB_v, slB_o, call_v, call_o, call_t, callk_v, blt_v, blt_o, comp_v, comp_o, compIf_v, compIf_o, dict0_v, dict1_v, src_eq, rng1_v, zip_v, chain_t, as_nl, as_cs, ds_nl, ds_cs, os_nl, os_cs, vs_nl, vs_cs, es_nl, es_cs, bv_1, bv_2, bt_1, bt_2, s_nil, s_cons, s_set, s_setLc, s_par, s_unp, s_ite, s_loop, s_frz, s_app, rt_non, rt_bl, rt_int, rt_str, rt_glb, rt_tup, rt_lst, rt_bin, rt_cmp, rt_chain, rt_isN, rt_not, rt_bop, rt_ife, rt_idx, rt_slA, rt_slB, rt_call, rt_callk, rt_blt, rt_comp, rt_compIf, rt_isi, gR_s, rt_var, DV.dat, DV.fz, List.getElem?_cons_zero, List.getElem?_cons_succ, List.set_cons_zero, List.set_cons_succ, Option.map_some, Option.map_none, Option.bind_some, Option.bind_none, List.any_cons, List.any_nil, Bool.or_false, Bool.false_or, Bool.or_true, Bool.true_or, Bool.not_true, Bool.not_false, isTy, bltD, blt1, blt2, truthD, intD, setAll, setMany, slAB_v, slAB_o, kSlAB_a, kSlAB0_a, kSlAB1_a, kSlAB2_a, neg_v, neg_o, kNeg_i, notN_t, not_v, s_aug, kAug_a, s_whil, s_brk, s_cont, s_retN, s_popAt, callk_o, kCallk_a, kCallk2_a, dkey_i, dkey_s, kDict_a, kDictU_a, kDict2_d, wp_some, wp_bO, wp_thn, wp_endOf, wp_oV, wp_tV, wp_vB, wp_oB, kW_a, kT_a, kE_a, kOV_a, kTV_a, kVB_a, kOB_a]
      exact h
    · simp only [bO_some, bO_none, lO_some, lO_none, iB_t, iB_f, thn_nx, thn_rt, thn_bk, thn_ct, endOf_rt, endOf_nx, kLift_a, kOk_a, kO2_a, kIte_t, kIte_f, kIfe_t, kIfe_f, kCall_a, kArgs_a, kArgs2_a, kVals_a, kVals2_a, kOpd_a, kOpd2_a, kDat_a, kDat2_a, kBV_a, kBV2_tt, kBV2_ff, kBV2_tf, kBV2_ft, kBT_tt, kBT_ff, kBT_tf, kBT_ft, kComp_a, kSrc_a, kChain_a, kChain2_a, kChain3_t, kChain3_f, kSet_a, kPar_a, kUnp_a, kFor_a, gV_d, gV_dk, gO_d, gO_o, var_v, var_o, var_t, oV_d, oV_own, tV_d, tV_own, vB_s, oB_s, non_v, non_o, bl_v, bl_o, bl_t, int_v, int_o, str_v, str_o, glb_v, glb_o, tup_v, tup_o, lst_v, lst_o, bin_v, bin_o, bin_t, cmp_t, cmp_v, cmp_o, isN_t, isN_v, isi_t, isi_v, not_t, bop_v, bop_o, bop_t, ife_v, ife_o, idx_v, idx_o, slA_v, slA_o, slB_v, slB_o, call_v, call_o, call_t, callk_v, blt_v, blt_o, comp_v, comp_o, compIf_v, compIf_o, dict0_v, dict1_v, src_eq, rng1_v, zip_v, chain_t, as_nl, as_cs, ds_nl, ds_cs, os_nl, os_cs, vs_nl, vs_cs, es_nl, es_cs, bv_1, bv_2, bt_1, bt_2, s_nil, s_cons, s_set, s_setLc, s_par, s_unp, s_ite, s_loop, s_frz, s_app, rt_non, rt_bl, rt_int, rt_str, rt_glb, rt_tup, rt_lst, rt_bin, rt_cmp, rt_chain, rt_isN, rt_not, rt_bop, rt_ife, rt_idx, rt_slA, rt_slB, rt_call, rt_callk, rt_blt, rt_comp, rt_compIf, rt_isi, gR_s, rt_var, DV.dat, DV.fz, List.getElem?_cons_zero, List.getElem?_cons_succ, List.set_cons_zero, List.set_cons_succ, Option.map_some, Option.map_none, Option.bind_some, Option.bind_none, List.any_cons, List.any_nil, Bool.or_false, Bool.false_or, Bool.or_true, Bool.true_or, Bool.not_true, Bool.not_false, isTy, bltD, blt1, blt2, truthD, intD, setAll, setMany, slAB_v, slAB_o, kSlAB_a, kSlAB0_a, kSlAB1_a, kSlAB2_a, neg_v, neg_o, kNeg_i, notN_t, not_v, s_aug, kAug_a, s_whil, s_brk, s_cont, s_retN, s_popAt, callk_o, kCallk_a, kCallk2_a, dkey_i, dkey_s, kDict_a, kDictU_a, kDict2_d, wp_some, wp_bO, wp_thn, wp_endOf, wp_oV, wp_tV, wp_vB, wp_oB, kW_a, kT_a, kE_a, kOV_a, kTV_a, kVB_a, kOB_a, i1, isN_n]
      refine (kindc c q hq (by omega)).mono fun v k h => ?_
      simp only [bO_some, bO_none, lO_some, lO_none, iB_t, iB_f, thn_nx, thn_rt, thn_bk, thn_ct, endOf_rt, endOf_nx, kLift_a, kOk_a, kO2_a, kIte_t, kIte_f, kIfe_t, kIfe_f, kCall_a, kArgs_a, kArgs2_a, kVals_a, kVals2_a, kOpd_a, kOpd2_a, kDat_a, kDat2_a, kBV_a, kBV2_tt, kBV2_ff, kBV2_tf, kBV2_ft, kBT_tt, kBT_ff, kBT_tf, kBT_ft, kComp_a, kSrc_a, kChain_a, kChain2_a, kChain3_t, kChain3_f, kSet_a, kPar_a, kUnp_a, kFor_a, gV_d, gV_dk, gO_d, gO_o, var_v, var_o, var_t, oV_d, oV_own, tV_d, tV_own, vB_s, oB_s, non_v, non_o, bl_v, bl_o, bl_t, int_v, int_o, str_v, str_o, glb_v, glb_o, tup_v, tup_o, lst_v, lst_o, bin_v, bin_o, bin_t, cmp_t, cmp_v, cmp_o, isN_t, isN_v, isi_t, isi_v, not_t, bop_v, bop_o, bop_t, ife_v, ife_o, idx_v, idx_o, slA_v, slA_o, slB_v, slB_o, call_v, call_o, call_t, callk_v, blt_v, blt_o, comp_v, comp_o, compIf_v, compIf_o, dict0_v, dict1_v, src_eq, rng1_v, zip_v, chain_t, as_nl, as_cs, ds_nl, ds_cs, os_nl, os_cs, vs_nl, vs_cs, es_nl, es_cs, bv_1, bv_2, bt_1, bt_2, s_nil, s_cons, s_set, s_setLc, s_par, s_unp, s_ite, s_loop, s_frz, s_app, rt_non, rt_bl, rt_int, rt_str, rt_glb, rt_tup, rt_lst, rt_bin, rt_cmp, rt_chain, rt_isN, rt_not, rt_bop, rt_ife, rt_idx, rt_slA, rt_slB, rt_call, rt_callk, rt_blt, rt_comp, rt_compIf, rt_isi, gR_s, rt_var, DV.dat, DV.fz, List.getElem?_cons_zero, List.getElem?_cons_succ, List.set_cons_zero, List.set_cons_succ, Option.map_some, Option.map_none, Option.bind_some, Option.bind_none, List.any_cons, List.any_nil, Bool.or_false, Bool.false_or, Bool.or_true, Bool.true_or, Bool.not_true, Bool.not_false, isTy, bltD, blt1, blt2, truthD, intD, setAll, setMany, slAB_v, slAB_o, kSlAB_a, kSlAB0_a, kSlAB1_a, kSlAB2_a, neg_v, neg_o, kNeg_i, notN_t, not_v, s_aug, kAug_a, s_whil, s_brk, s_cont, s_retN, s_popAt, callk_o, kCallk_a, kCallk2_a, dkey_i, dkey_s, kDict_a, kDictU_a, kDict2_d, wp_some, wp_bO, wp_thn, wp_endOf, wp_oV, wp_tV, wp_vB, wp_oB, kW_a, kT_a, kE_a, kOV_a, kTV_a, kVB_a, kOB_a]
      exact h
    · simp only [bO_some, bO_none, lO_some, lO_none, iB_t, iB_f, thn_nx, thn_rt, thn_bk, thn_ct, endOf_rt, endOf_nx, kLift_a, kOk_a, kO2_a, kIte_t, kIte_f, kIfe_t, kIfe_f, kCall_a, kArgs_a, kArgs2_a, kVals_a, kVals2_a, kOpd_a, kOpd2_a, kDat_a, kDat2_a, kBV_a, kBV2_tt, kBV2_ff, kBV2_tf, kBV2_ft, kBT_tt, kBT_ff, kBT_tf, kBT_ft, kComp_a, kSrc_a, kChain_a, kChain2_a, kChain3_t, kChain3_f, kSet_a, kPar_a, kUnp_a, kFor_a, gV_d, gV_dk, gO_d, gO_o, var_v, var_o, var_t, oV_d, oV_own, tV_d, tV_own, vB_s, oB_s, non_v, non_o, bl_v, bl_o, bl_t, int_v, int_o, str_v, str_o, glb_v, glb_o, tup_v, tup_o, lst_v, lst_o, bin_v, bin_o, bin_t, cmp_t, cmp_v, cmp_o, isN_t, isN_v, isi_t, isi_v, not_t, bop_v, bop_o, bop_t, ife_v, ife_o, idx_v, idx_o, slA_v, slA_o, slB_v, slB_o, call_v, call_o, call_t, callk_v, blt_v, blt_o, comp_v, comp_o, compIf_v, compIf_o, dict0_v, dict1_v, src_eq, rng1_v, zip_v, chain_t, as_nl, as_cs, ds_nl, ds_cs, os_nl, os_cs, vs_nl, vs_cs, es_nl, es_cs, bv_1, bv_2, bt_1, bt_2, s_nil, s_cons, s_set, s_setLc, s_par, s_unp, s_ite, s_loop, s_frz, s_app, rt_non, rt_bl, rt_int, rt_str, rt_glb, rt_tup, rt_lst, rt_bin, rt_cmp, rt_chain, rt_isN, rt_not, rt_bop, rt_ife, rt_idx, rt_slA, rt_slB, rt_call, rt_callk, rt_blt, rt_comp, rt_compIf, rt_isi, gR_s, rt_var, DV.dat, DV.fz, List.getElem?_cons_zero, List.getElem?_cons_succ, List.set_cons_zero, List.set_cons_succ, Option.map_some, Option.map_none, Option.bind_some, Option.bind_none, List.any_cons, List.any_nil, Bool.or_false, Bool.false_or, Bool.or_true, Bool.true_or, Bool.not_true, Bool.not_false, isTy, bltD, blt1, blt2, truthD, intD, setAll, setMany, slAB_v, slAB_o, kSlAB_a, kSlAB0_a, kSlAB1_a, kSlAB2_a, neg_v, neg_o, kNeg_i, notN_t, not_v, s_aug, kAug_a, s_whil, s_brk, s_cont, s_retN, s_popAt, callk_o, kCallk_a, kCallk2_a, dkey_i, dkey_s, kDict_a, kDictU_a, kDict2_d, wp_some, wp_bO, wp_thn, wp_endOf, wp_oV, wp_tV, wp_vB, wp_oB, kW_a, kT_a, kE_a, kOV_a, kTV_a, kVB_a, kOB_a, i0, i1, he.notNone]
      refine wdraw (m := 4) (by decide) (by decide) hq (by omega) fun w q1 w1 w2 => ?_
      simp only [bO_some, bO_none, lO_some, lO_none, iB_t, iB_f, thn_nx, thn_rt, thn_bk, thn_ct, endOf_rt, endOf_nx, kLift_a, kOk_a, kO2_a, kIte_t, kIte_f, kIfe_t, kIfe_f, kCall_a, kArgs_a, kArgs2_a, kVals_a, kVals2_a, kOpd_a, kOpd2_a, kDat_a, kDat2_a, kBV_a, kBV2_tt, kBV2_ff, kBV2_tf, kBV2_ft, kBT_tt, kBT_ff, kBT_tf, kBT_ft, kComp_a, kSrc_a, kChain_a, kChain2_a, kChain3_t, kChain3_f, kSet_a, kPar_a, kUnp_a, kFor_a, gV_d, gV_dk, gO_d, gO_o, var_v, var_o, var_t, oV_d, oV_own, tV_d, tV_own, vB_s, oB_s, non_v, non_o, bl_v, bl_o, bl_t, int_v, int_o, str_v, str_o, glb_v, glb_o, tup_v, tup_o, lst_v, lst_o, bin_v, bin_o, bin_t, cmp_t, cmp_v, cmp_o, isN_t, isN_v, isi_t, isi_v, not_t, bop_v, bop_o, bop_t, ife_v, ife_o, idx_v, idx_o, slA_v, slA_o, slB_v, slB_o, call_v, call_o, call_t, callk_v, blt_v, blt_o, comp_v, comp_o, compIf_v, compIf_o, dict0_v, dict1_v, src_eq, rng1_v, zip_v, chain_t, as_nl, as_cs, ds_nl, ds_cs, os_nl, os_cs, vs_nl, vs_cs, es_nl, es_cs, bv_1, bv_2, bt_1, bt_2, s_nil, s_cons, s_set, s_setLc, s_par, s_unp, s_ite, s_loop, s_frz, s_app, rt_non, rt_bl, rt_int, rt_str, rt_glb, rt_tup, rt_lst, rt_bin, rt_cmp, rt_chain, rt_isN, rt_not, rt_bop, rt_ife, rt_idx, rt_slA, rt_slB, rt_call, rt_callk, rt_blt, rt_comp, rt_compIf, rt_isi, gR_s, rt_var, DV.dat, DV.fz, List.getElem?_cons_zero, List.getElem?_cons_succ, List.set_cons_zero, List.set_cons_succ, Option.map_some, Option.map_none, Option.bind_some, Option.bind_none, List.any_cons, List.any_nil, Bool.or_false, Bool.false_or, Bool.or_true, Bool.true_or, Bool.not_true, Bool.not_false, isTy, bltD, blt1, blt2, truthD, intD, setAll, setMany, slAB_v, slAB_o, kSlAB_a, kSlAB0_a, kSlAB1_a, kSlAB2_a, neg_v, neg_o, kNeg_i, notN_t, not_v, s_aug, kAug_a, s_whil, s_brk, s_cont, s_retN, s_popAt, callk_o, kCallk_a, kCallk2_a, dkey_i, dkey_s, kDict_a, kDictU_a, kDict2_d, wp_some, wp_bO, wp_thn, wp_endOf, wp_oV, wp_tV, wp_vB, wp_oB, kW_a, kT_a, kE_a, kOV_a, kTV_a, kVB_a, kOB_a, eq0N]
      by_cases hw : w = 0
      · simp only [hw, decide_true, bO_some, bO_none, lO_some, lO_none, iB_t, iB_f, thn_nx, thn_rt, thn_bk, thn_ct, endOf_rt, endOf_nx, kLift_a, kOk_a, kO2_a, kIte_t, kIte_f, kIfe_t, kIfe_f, kCall_a, kArgs_a, kArgs2_a, kVals_a, kVals2_a, kOpd_a, kOpd2_a, kDat_a, kDat2_a, kBV_a, kBV2_tt, kBV2_ff, kBV2_tf, kBV2_ft, kBT_tt, kBT_ff, kBT_tf, kBT_ft, kComp_a, kSrc_a, kChain_a, kChain2_a, kChain3_t, kChain3_f, kSet_a, kPar_a, kUnp_a, kFor_a, gV_d, gV_dk, gO_d, gO_o, var_v, var_o, var_t, oV_d, oV_own, tV_d, tV_own, vB_s, oB_s, non_v, non_o, bl_v, bl_o, bl_t, int_v, int_o, str_v, str_o, glb_v, glb_o, tup_v, tup_o, lst_v, lst_o, bin_v, bin_o, bin_t, cmp_t, cmp_v, cmp_o, isN_t, isN_v, isi_t, isi_v, not_t, bop_v, bop_o, bop_t, ife_v, ife_o, idx_v, idx_o, slA_v, slA_o, slB_v, slB_o, call_v, call_o, call_t, callk_v, blt_v, blt_o, comp_v, comp_o, compIf_v, compIf_o, dict0_v, dict1_v, src_eq, rng1_v, zip_v, chain_t, as_nl, as_cs, ds_nl, ds_cs, os_nl, os_cs, vs_nl, vs_cs, es_nl, es_cs, bv_1, bv_2, bt_1, bt_2, s_nil, s_cons, s_set, s_setLc, s_par, s_unp, s_ite, s_loop, s_frz, s_app, rt_non, rt_bl, rt_int, rt_str, rt_glb, rt_tup, rt_lst, rt_bin, rt_cmp, rt_chain, rt_isN, rt_not, rt_bop, rt_ife, rt_idx, rt_slA, rt_slB, rt_call, rt_callk, rt_blt, rt_comp, rt_compIf, rt_isi, gR_s, rt_var, DV.dat, DV.fz, List.getElem?_cons_zero, List.getElem?_cons_succ, List.set_cons_zero, List.set_cons_succ, Option.map_some, Option.map_none, Option.bind_some, Option.bind_none, List.any_cons, List.any_nil, Bool.or_false, Bool.false_or, Bool.or_true, Bool.true_or, Bool.not_true, Bool.not_false, isTy, bltD, blt1, blt2, truthD, intD, setAll, setMany, slAB_v, slAB_o, kSlAB_a, kSlAB0_a, kSlAB1_a, kSlAB2_a, neg_v, neg_o, kNeg_i, notN_t, not_v, s_aug, kAug_a, s_whil, s_brk, s_cont, s_retN, s_popAt, callk_o, kCallk_a, kCallk2_a, dkey_i, dkey_s, kDict_a, kDictU_a, kDict2_d, wp_some, wp_bO, wp_thn, wp_endOf, wp_oV, wp_tV, wp_vB, wp_oB, kW_a, kT_a, kE_a, kOV_a, kTV_a, kVB_a, kOB_a]
        refine (kindc (c + 1) q1 w2 (by omega)).mono fun v k h => ?_
        simp only [bO_some, bO_none, lO_some, lO_none, iB_t, iB_f, thn_nx, thn_rt, thn_bk, thn_ct, endOf_rt, endOf_nx, kLift_a, kOk_a, kO2_a, kIte_t, kIte_f, kIfe_t, kIfe_f, kCall_a, kArgs_a, kArgs2_a, kVals_a, kVals2_a, kOpd_a, kOpd2_a, kDat_a, kDat2_a, kBV_a, kBV2_tt, kBV2_ff, kBV2_tf, kBV2_ft, kBT_tt, kBT_ff, kBT_tf, kBT_ft, kComp_a, kSrc_a, kChain_a, kChain2_a, kChain3_t, kChain3_f, kSet_a, kPar_a, kUnp_a, kFor_a, gV_d, gV_dk, gO_d, gO_o, var_v, var_o, var_t, oV_d, oV_own, tV_d, tV_own, vB_s, oB_s, non_v, non_o, bl_v, bl_o, bl_t, int_v, int_o, str_v, str_o, glb_v, glb_o, tup_v, tup_o, lst_v, lst_o, bin_v, bin_o, bin_t, cmp_t, cmp_v, cmp_o, isN_t, isN_v, isi_t, isi_v, not_t, bop_v, bop_o, bop_t, ife_v, ife_o, idx_v, idx_o, slA_v, slA_o, slB_v, slB_o, call_v, call_o, call_t, callk_v, blt_v, blt_o, comp_v, comp_o, compIf_v, compIf_o, dict0_v, dict1_v, src_eq, rng1_v, zip_v, chain_t, as_nl, as_cs, ds_nl, ds_cs, os_nl, os_cs, vs_nl, vs_cs, es_nl, es_cs, bv_1, bv_2, bt_1, bt_2, s_nil, s_cons, s_set, s_setLc, s_par, s_unp, s_ite, s_loop, s_frz, s_app, rt_non, rt_bl, rt_int, rt_str, rt_glb, rt_tup, rt_lst, rt_bin, rt_cmp, rt_chain, rt_isN, rt_not, rt_bop, rt_ife, rt_idx, rt_slA, rt_slB, rt_call, rt_callk, rt_blt, rt_comp, rt_compIf, rt_isi, gR_s, rt_var, DV.dat, DV.fz, List.getElem?_cons_zero, List.getElem?_cons_succ, List.set_cons_zero, List.set_cons_succ, Option.map_some, Option.map_none, Option.bind_some, Option.bind_none, List.any_cons, List.any_nil, Bool.or_false, Bool.false_or, Bool.or_true, Bool.true_or, Bool.not_true, Bool.not_false, isTy, bltD, blt1, blt2, truthD, intD, setAll, setMany, slAB_v, slAB_o, kSlAB_a, kSlAB0_a, kSlAB1_a, kSlAB2_a, neg_v, neg_o, kNeg_i, notN_t, not_v, s_aug, kAug_a, s_whil, s_brk, s_cont, s_retN, s_popAt, callk_o, kCallk_a, kCallk2_a, dkey_i, dkey_s, kDict_a, kDictU_a, kDict2_d, wp_some, wp_bO, wp_thn, wp_endOf, wp_oV, wp_tV, wp_vB, wp_oB, kW_a, kT_a, kE_a, kOV_a, kTV_a, kVB_a, kOB_a]
        exact h
      · simp only [hw, decide_false, bO_some, bO_none, lO_some, lO_none, iB_t, iB_f, thn_nx, thn_rt, thn_bk, thn_ct, endOf_rt, endOf_nx, kLift_a, kOk_a, kO2_a, kIte_t, kIte_f, kIfe_t, kIfe_f, kCall_a, kArgs_a, kArgs2_a, kVals_a, kVals2_a, kOpd_a, kOpd2_a, kDat_a, kDat2_a, kBV_a, kBV2_tt, kBV2_ff, kBV2_tf, kBV2_ft, kBT_tt, kBT_ff, kBT_tf, kBT_ft, kComp_a, kSrc_a, kChain_a, kChain2_a, kChain3_t, kChain3_f, kSet_a, kPar_a, kUnp_a, kFor_a, gV_d, gV_dk, gO_d, gO_o, var_v, var_o, var_t, oV_d, oV_own, tV_d, tV_own, vB_s, oB_s, non_v, non_o, bl_v, bl_o, bl_t, int_v, int_o, str_v, str_o, glb_v, glb_o, tup_v, tup_o, lst_v, lst_o, bin_v, bin_o, bin_t, cmp_t, cmp_v, cmp_o, isN_t, isN_v, isi_t, isi_v, not_t, bop_v, bop_o, bop_t, ife_v, ife_o, idx_v, idx_o, slA_v, slA_o, slB_v, slB_o, call_v, call_o, call_t, callk_v, blt_v, blt_o, comp_v, comp_o, compIf_v, compIf_o, dict0_v, dict1_v, src_eq, rng1_v, zip_v, chain_t, as_nl, as_cs, ds_nl, ds_cs, os_nl, os_cs, vs_nl, vs_cs, es_nl, es_cs, bv_1, bv_2, bt_1, bt_2, s_nil, s_cons, s_set, s_setLc, s_par, s_unp, s_ite, s_loop, s_frz, s_app, rt_non, rt_bl, rt_int, rt_str, rt_glb, rt_tup, rt_lst, rt_bin, rt_cmp, rt_chain, rt_isN, rt_not, rt_bop, rt_ife, rt_idx, rt_slA, rt_slB, rt_call, rt_callk, rt_blt, rt_comp, rt_compIf, rt_isi, gR_s, rt_var, DV.dat, DV.fz, List.getElem?_cons_zero, List.getElem?_cons_succ, List.set_cons_zero, List.set_cons_succ, Option.map_some, Option.map_none, Option.bind_some, Option.bind_none, List.any_cons, List.any_nil, Bool.or_false, Bool.false_or, Bool.or_true, Bool.true_or, Bool.not_true, Bool.not_false, isTy, bltD, blt1, blt2, truthD, intD, setAll, setMany, slAB_v, slAB_o, kSlAB_a, kSlAB0_a, kSlAB1_a, kSlAB2_a, neg_v, neg_o, kNeg_i, notN_t, not_v, s_aug, kAug_a, s_whil, s_brk, s_cont, s_retN, s_popAt, callk_o, kCallk_a, kCallk2_a, dkey_i, dkey_s, kDict_a, kDictU_a, kDict2_d, wp_some, wp_bO, wp_thn, wp_endOf, wp_oV, wp_tV, wp_vB, wp_oB, kW_a, kT_a, kE_a, kOV_a, kTV_a, kVB_a, kOB_a, i0, i1, eqS, beq_self_eq_true]
        refine changed m (n + 1) e (c + 1) q1 _ (by omega) he w2 (by omega) fun d q' h2 h3 => ?_
        simp only [bO_some, bO_none, lO_some, lO_none, iB_t, iB_f, thn_nx, thn_rt, thn_bk, thn_ct, endOf_rt, endOf_nx, kLift_a, kOk_a, kO2_a, kIte_t, kIte_f, kIfe_t, kIfe_f, kCall_a, kArgs_a, kArgs2_a, kVals_a, kVals2_a, kOpd_a, kOpd2_a, kDat_a, kDat2_a, kBV_a, kBV2_tt, kBV2_ff, kBV2_tf, kBV2_ft, kBT_tt, kBT_ff, kBT_tf, kBT_ft, kComp_a, kSrc_a, kChain_a, kChain2_a, kChain3_t, kChain3_f, kSet_a, kPar_a, kUnp_a, kFor_a, gV_d, gV_dk, gO_d, gO_o, var_v, var_o, var_t, oV_d, oV_own, tV_d, tV_own, vB_s, oB_s, non_v, non_o, bl_v, bl_o, bl_t, int_v, int_o, str_v, str_o, glb_v, glb_o, tup_v, tup_o, lst_v, lst_o, bin_v, bin_o, bin_t, cmp_t, cmp_v, cmp_o, isN_t, isN_v, isi_t, isi_v, not_t, bop_v, bop_o, bop_t, ife_v, ife_o, idx_v, idx_o, slA_v, slA_o, slB_v, slB_o, call_v, call_o, call_t, callk_v, blt_v, blt_o, comp_v, comp_o, compIf_v, compIf_o, dict0_v, dict1_v, src_eq, rng1_v, zip_v, chain_t, as_nl, as_cs, ds_nl, ds_cs, os_nl, os_cs, vs_nl, vs_cs, es_nl, es_cs, bv_1, bv_2, bt_1, bt_2, s_nil, s_cons, s_set, s_setLc, s_par, s_unp, s_ite, s_loop, s_frz, s_app, rt_non, rt_bl, rt_int, rt_str, rt_glb, rt_tup, rt_lst, rt_bin, rt_cmp, rt_chain, rt_isN, rt_not, rt_bop, rt_ife, rt_idx, rt_slA, rt_slB, rt_call, rt_callk, rt_blt, rt_comp, rt_compIf, rt_isi, gR_s, rt_var, DV.dat, DV.fz, List.getElem?_cons_zero, List.getElem?_cons_succ, List.set_cons_zero, List.set_cons_succ, Option.map_some, Option.map_none, Option.bind_some, Option.bind_none, List.any_cons, List.any_nil, Bool.or_false, Bool.false_or, Bool.or_true, Bool.true_or, Bool.not_true, Bool.not_false, isTy, bltD, blt1, blt2, truthD, intD, setAll, setMany, slAB_v, slAB_o, kSlAB_a, kSlAB0_a, kSlAB1_a, kSlAB2_a, neg_v, neg_o, kNeg_i, notN_t, not_v, s_aug, kAug_a, s_whil, s_brk, s_cont, s_retN, s_popAt, callk_o, kCallk_a, kCallk2_a, dkey_i, dkey_s, kDict_a, kDictU_a, kDict2_d, wp_some, wp_bO, wp_thn, wp_endOf, wp_oV, wp_tV, wp_vB, wp_oB, kW_a, kT_a, kE_a, kOV_a, kTV_a, kVB_a, kOB_a]
        exact hQ (St d) q' (.inr (.inr (.inl ⟨d, rfl, h2⟩))) (h3.mono (by omega))
    · have nn : isNone (.tuple es) = false := rfl
      have l0 : 0 < es.length := List.length_pos_iff.mpr e1
      simp only [bO_some, bO_none, lO_some, lO_none, iB_t, iB_f, thn_nx, thn_rt, thn_bk, thn_ct, endOf_rt, endOf_nx, kLift_a, kOk_a, kO2_a, kIte_t, kIte_f, kIfe_t, kIfe_f, kCall_a, kArgs_a, kArgs2_a, kVals_a, kVals2_a, kOpd_a, kOpd2_a, kDat_a, kDat2_a, kBV_a, kBV2_tt, kBV2_ff, kBV2_tf, kBV2_ft, kBT_tt, kBT_ff, kBT_tf, kBT_ft, kComp_a, kSrc_a, kChain_a, kChain2_a, kChain3_t, kChain3_f, kSet_a, kPar_a, kUnp_a, kFor_a, gV_d, gV_dk, gO_d, gO_o, var_v, var_o, var_t, oV_d, oV_own, tV_d, tV_own, vB_s, oB_s, non_v, non_o, bl_v, bl_o, bl_t, int_v, int_o, str_v, str_o, glb_v, glb_o, tup_v, tup_o, lst_v, lst_o, bin_v, bin_o, bin_t, cmp_t, cmp_v, cmp_o, isN_t, isN_v, isi_t, isi_v, not_t, bop_v, bop_o, bop_t, ife_v, ife_o, idx_v, idx_o, slA_v, slA_o, slB_v, slB_o, call_v, call_o, call_t, callk_v, blt_v, blt_o, comp_v, comp_o, compIf_v, compIf_o, dict0_v, dict1_v, src_eq, rng1_v, zip_v, chain_t, as_nl, as_cs, ds_nl, ds_cs, os_nl, os_cs, vs_nl, vs_cs, es_nl, es_cs, bv_1, bv_2, bt_1, bt_2, s_nil, s_cons, s_set, s_setLc, s_par, s_unp, s_ite, s_loop, s_frz, s_app, rt_non, rt_bl, rt_int, rt_str, rt_glb, rt_tup, rt_lst, rt_bin, rt_cmp, rt_chain, rt_isN, rt_not, rt_bop, rt_ife, rt_idx, rt_slA, rt_slB, rt_call, rt_callk, rt_blt, rt_comp, rt_compIf, rt_isi, gR_s, rt_var, DV.dat, DV.fz, List.getElem?_cons_zero, List.getElem?_cons_succ, List.set_cons_zero, List.set_cons_succ, Option.map_some, Option.map_none, Option.bind_some, Option.bind_none, List.any_cons, List.any_nil, Bool.or_false, Bool.false_or, Bool.or_true, Bool.true_or, Bool.not_true, Bool.not_false, isTy, bltD, blt1, blt2, truthD, intD, setAll, setMany, slAB_v, slAB_o, kSlAB_a, kSlAB0_a, kSlAB1_a, kSlAB2_a, neg_v, neg_o, kNeg_i, notN_t, not_v, s_aug, kAug_a, s_whil, s_brk, s_cont, s_retN, s_popAt, callk_o, kCallk_a, kCallk2_a, dkey_i, dkey_s, kDict_a, kDictU_a, kDict2_d, wp_some, wp_bO, wp_thn, wp_endOf, wp_oV, wp_tV, wp_vB, wp_oB, kW_a, kT_a, kE_a, kOV_a, kTV_a, kVB_a, kOB_a, i0, i1, nn]
      refine wdraw (m := 4) (by decide) (by decide) hq (by omega) fun w q1 w1 w2 => ?_
      simp only [bO_some, bO_none, lO_some, lO_none, iB_t, iB_f, thn_nx, thn_rt, thn_bk, thn_ct, endOf_rt, endOf_nx, kLift_a, kOk_a, kO2_a, kIte_t, kIte_f, kIfe_t, kIfe_f, kCall_a, kArgs_a, kArgs2_a, kVals_a, kVals2_a, kOpd_a, kOpd2_a, kDat_a, kDat2_a, kBV_a, kBV2_tt, kBV2_ff, kBV2_tf, kBV2_ft, kBT_tt, kBT_ff, kBT_tf, kBT_ft, kComp_a, kSrc_a, kChain_a, kChain2_a, kChain3_t, kChain3_f, kSet_a, kPar_a, kUnp_a, kFor_a, gV_d, gV_dk, gO_d, gO_o, var_v, var_o, var_t, oV_d, oV_own, tV_d, tV_own, vB_s, oB_s, non_v, non_o, bl_v, bl_o, bl_t, int_v, int_o, str_v, str_o, glb_v, glb_o, tup_v, tup_o, lst_v, lst_o, bin_v, bin_o, bin_t, cmp_t, cmp_v, cmp_o, isN_t, isN_v, isi_t, isi_v, not_t, bop_v, bop_o, bop_t, ife_v, ife_o, idx_v, idx_o, slA_v, slA_o, slB_v, slB_o, call_v, call_o, call_t, callk_v, blt_v, blt_o, comp_v, comp_o, compIf_v, compIf_o, dict0_v, dict1_v, src_eq, rng1_v, zip_v, chain_t, as_nl, as_cs, ds_nl, ds_cs, os_nl, os_cs, vs_nl, vs_cs, es_nl, es_cs, bv_1, bv_2, bt_1, bt_2, s_nil, s_cons, s_set, s_setLc, s_par, s_unp, s_ite, s_loop, s_frz, s_app, rt_non, rt_bl, rt_int, rt_str, rt_glb, rt_tup, rt_lst, rt_bin, rt_cmp, rt_chain, rt_isN, rt_not, rt_bop, rt_ife, rt_idx, rt_slA, rt_slB, rt_call, rt_callk, rt_blt, rt_comp, rt_compIf, rt_isi, gR_s, rt_var, DV.dat, DV.fz, List.getElem?_cons_zero, List.getElem?_cons_succ, List.set_cons_zero, List.set_cons_succ, Option.map_some, Option.map_none, Option.bind_some, Option.bind_none, List.any_cons, List.any_nil, Bool.or_false, Bool.false_or, Bool.or_true, Bool.true_or, Bool.not_true, Bool.not_false, isTy, bltD, blt1, blt2, truthD, intD, setAll, setMany, slAB_v, slAB_o, kSlAB_a, kSlAB0_a, kSlAB1_a, kSlAB2_a, neg_v, neg_o, kNeg_i, notN_t, not_v, s_aug, kAug_a, s_whil, s_brk, s_cont, s_retN, s_popAt, callk_o, kCallk_a, kCallk2_a, dkey_i, dkey_s, kDict_a, kDictU_a, kDict2_d, wp_some, wp_bO, wp_thn, wp_endOf, wp_oV, wp_tV, wp_vB, wp_oB, kW_a, kT_a, kE_a, kOV_a, kTV_a, kVB_a, kOB_a, eq0N]
      by_cases hw : w = 0
      · simp only [hw, decide_true, bO_some, bO_none, lO_some, lO_none, iB_t, iB_f, thn_nx, thn_rt, thn_bk, thn_ct, endOf_rt, endOf_nx, kLift_a, kOk_a, kO2_a, kIte_t, kIte_f, kIfe_t, kIfe_f, kCall_a, kArgs_a, kArgs2_a, kVals_a, kVals2_a, kOpd_a, kOpd2_a, kDat_a, kDat2_a, kBV_a, kBV2_tt, kBV2_ff, kBV2_tf, kBV2_ft, kBT_tt, kBT_ff, kBT_tf, kBT_ft, kComp_a, kSrc_a, kChain_a, kChain2_a, kChain3_t, kChain3_f, kSet_a, kPar_a, kUnp_a, kFor_a, gV_d, gV_dk, gO_d, gO_o, var_v, var_o, var_t, oV_d, oV_own, tV_d, tV_own, vB_s, oB_s, non_v, non_o, bl_v, bl_o, bl_t, int_v, int_o, str_v, str_o, glb_v, glb_o, tup_v, tup_o, lst_v, lst_o, bin_v, bin_o, bin_t, cmp_t, cmp_v, cmp_o, isN_t, isN_v, isi_t, isi_v, not_t, bop_v, bop_o, bop_t, ife_v, ife_o, idx_v, idx_o, slA_v, slA_o, slB_v, slB_o, call_v, call_o, call_t, callk_v, blt_v, blt_o, comp_v, comp_o, compIf_v, compIf_o, dict0_v, dict1_v, src_eq, rng1_v, zip_v, chain_t, as_nl, as_cs, ds_nl, ds_cs, os_nl, os_cs, vs_nl, vs_cs, es_nl, es_cs, bv_1, bv_2, bt_1, bt_2, s_nil, s_cons, s_set, s_setLc, s_par, s_unp, s_ite, s_loop, s_frz, s_app, rt_non, rt_bl, rt_int, rt_str, rt_glb, rt_tup, rt_lst, rt_bin, rt_cmp, rt_chain, rt_isN, rt_not, rt_bop, rt_ife, rt_idx, rt_slA, rt_slB, rt_call, rt_callk, rt_blt, rt_comp, rt_compIf, rt_isi, gR_s, rt_var, DV.dat, DV.fz, List.getElem?_cons_zero, List.getElem?_cons_succ, List.set_cons_zero, List.set_cons_succ, Option.map_some, Option.map_none, Option.bind_some, Option.bind_none, List.any_cons, List.any_nil, Bool.or_false, Bool.false_or, Bool.or_true, Bool.true_or, Bool.not_true, Bool.not_false, isTy, bltD, blt1, blt2, truthD, intD, setAll, setMany, slAB_v, slAB_o, kSlAB_a, kSlAB0_a, kSlAB1_a, kSlAB2_a, neg_v, neg_o, kNeg_i, notN_t, not_v, s_aug, kAug_a, s_whil, s_brk, s_cont, s_retN, s_popAt, callk_o, kCallk_a, kCallk2_a, dkey_i, dkey_s, kDict_a, kDictU_a, kDict2_d, wp_some, wp_bO, wp_thn, wp_endOf, wp_oV, wp_tV, wp_vB, wp_oB, kW_a, kT_a, kE_a, kOV_a, kTV_a, kVB_a, kOB_a]
        refine (kindc (c + 1) q1 w2 (by omega)).mono fun v k h => ?_
        simp only [bO_some, bO_none, lO_some, lO_none, iB_t, iB_f, thn_nx, thn_rt, thn_bk, thn_ct, endOf_rt, endOf_nx, kLift_a, kOk_a, kO2_a, kIte_t, kIte_f, kIfe_t, kIfe_f, kCall_a, kArgs_a, kArgs2_a, kVals_a, kVals2_a, kOpd_a, kOpd2_a, kDat_a, kDat2_a, kBV_a, kBV2_tt, kBV2_ff, kBV2_tf, kBV2_ft, kBT_tt, kBT_ff, kBT_tf, kBT_ft, kComp_a, kSrc_a, kChain_a, kChain2_a, kChain3_t, kChain3_f, kSet_a, kPar_a, kUnp_a, kFor_a, gV_d, gV_dk, gO_d, gO_o, var_v, var_o, var_t, oV_d, oV_own, tV_d, tV_own, vB_s, oB_s, non_v, non_o, bl_v, bl_o, bl_t, int_v, int_o, str_v, str_o, glb_v, glb_o, tup_v, tup_o, lst_v, lst_o, bin_v, bin_o, bin_t, cmp_t, cmp_v, cmp_o, isN_t, isN_v, isi_t, isi_v, not_t, bop_v, bop_o, bop_t, ife_v, ife_o, idx_v, idx_o, slA_v, slA_o, slB_v, slB_o, call_v, call_o, call_t, callk_v, blt_v, blt_o, comp_v, comp_o, compIf_v, compIf_o, dict0_v, dict1_v, src_eq, rng1_v, zip_v, chain_t, as_nl, as_cs, ds_nl, ds_cs, os_nl, os_cs, vs_nl, vs_cs, es_nl, es_cs, bv_1, bv_2, bt_1, bt_2, s_nil, s_cons, s_set, s_setLc, s_par, s_unp, s_ite, s_loop, s_frz, s_app, rt_non, rt_bl, rt_int, rt_str, rt_glb, rt_tup, rt_lst, rt_bin, rt_cmp, rt_chain, rt_isN, rt_not, rt_bop, rt_ife, rt_idx, rt_slA, rt_slB, rt_call, rt_callk, rt_blt, rt_comp, rt_compIf, rt_isi, gR_s, rt_var, DV.dat, DV.fz, List.getElem?_cons_zero, List.getElem?_cons_succ, List.set_cons_zero, List.set_cons_succ, Option.map_some, Option.map_none, Option.bind_some, Option.bind_none, List.any_cons, List.any_nil, Bool.or_false, Bool.false_or, Bool.or_true, Bool.true_or, Bool.not_true, Bool.not_false, isTy, bltD, blt1, blt2, truthD, intD, setAll, setMany, slAB_v, slAB_o, kSlAB_a, kSlAB0_a, kSlAB1_a, kSlAB2_a, neg_v, neg_o, kNeg_i, notN_t, not_v, s_aug, kAug_a, s_whil, s_brk, s_cont, s_retN, s_popAt, callk_o, kCallk_a, kCallk2_a, dkey_i, dkey_s, kDict_a, kDictU_a, kDict2_d, wp_some, wp_bO, wp_thn, wp_endOf, wp_oV, wp_tV, wp_vB, wp_oB, kW_a, kT_a, kE_a, kOV_a, kTV_a, kVB_a, kOB_a]
        exact h
      · simp only [hw, decide_false, bO_some, bO_none, lO_some, lO_none, iB_t, iB_f, thn_nx, thn_rt, thn_bk, thn_ct, endOf_rt, endOf_nx, kLift_a, kOk_a, kO2_a, kIte_t, kIte_f, kIfe_t, kIfe_f, kCall_a, kArgs_a, kArgs2_a, kVals_a, kVals2_a, kOpd_a, kOpd2_a, kDat_a, kDat2_a, kBV_a, kBV2_tt, kBV2_ff, kBV2_tf, kBV2_ft, kBT_tt, kBT_ff, kBT_tf, kBT_ft, kComp_a, kSrc_a, kChain_a, kChain2_a, kChain3_t, kChain3_f, kSet_a, kPar_a, kUnp_a, kFor_a, gV_d, gV_dk, gO_d, gO_o, var_v, var_o, var_t, oV_d, oV_own, tV_d, tV_own, vB_s, oB_s, non_v, non_o, bl_v, bl_o, bl_t, int_v, int_o, str_v, str_o, glb_v, glb_o, tup_v, tup_o, lst_v, lst_o, bin_v, bin_o, bin_t, cmp_t, cmp_v, cmp_o, isN_t, isN_v, isi_t, isi_v, not_t, bop_v, bop_o, bop_t, ife_v, ife_o, idx_v, idx_o, slA_v, slA_o, slB_v, slB_o, call_v, call_o, call_t, callk_v, blt_v, blt_o, comp_v, comp_o, compIf_v, compIf_o, dict0_v, dict1_v, src_eq, rng1_v, zip_v, chain_t, as_nl, as_cs, ds_nl, ds_cs, os_nl, os_cs, vs_nl, vs_cs, es_nl, es_cs, bv_1, bv_2, bt_1, bt_2, s_nil, s_cons, s_set, s_setLc, s_par, s_unp, s_ite, s_loop, s_frz, s_app, rt_non, rt_bl, rt_int, rt_str, rt_glb, rt_tup, rt_lst, rt_bin, rt_cmp, rt_chain, rt_isN, rt_not, rt_bop, rt_ife, rt_idx, rt_slA, rt_slB, rt_call, rt_callk, rt_blt, rt_comp, rt_compIf, rt_isi, gR_s, rt_var, DV.dat, DV.fz, List.getElem?_cons_zero, List.getElem?_cons_succ, List.set_cons_zero, List.set_cons_succ, Option.map_some, Option.map_none, Option.bind_some, Option.bind_none, List.any_cons, List.any_nil, Bool.or_false, Bool.false_or, Bool.or_true, Bool.true_or, Bool.not_true, Bool.not_false, isTy, bltD, blt1, blt2, truthD, intD, setAll, setMany, slAB_v, slAB_o, kSlAB_a, kSlAB0_a, kSlAB1_a, kSlAB2_a, neg_v, neg_o, kNeg_i, notN_t, not_v, s_aug, kAug_a, s_whil, s_brk, s_cont, s_retN, s_popAt, callk_o, kCallk_a, kCallk2_a, dkey_i, dkey_s, kDict_a, kDictU_a, kDict2_d, wp_some, wp_bO, wp_thn, wp_endOf, wp_oV, wp_tV, wp_vB, wp_oB, kW_a, kT_a, kE_a, kOV_a, kTV_a, kVB_a, kOB_a, i0, i1, eqS, beq_eq_false_iff_ne.mpr setrow.symm, lenB, lenD]
        refine wdraw l0 (by omega) w2 (by omega) fun at' q2 u1 u2 => ?_
        simp only [bO_some, bO_none, lO_some, lO_none, iB_t, iB_f, thn_nx, thn_rt, thn_bk, thn_ct, endOf_rt, endOf_nx, kLift_a, kOk_a, kO2_a, kIte_t, kIte_f, kIfe_t, kIfe_f, kCall_a, kArgs_a, kArgs2_a, kVals_a, kVals2_a, kOpd_a, kOpd2_a, kDat_a, kDat2_a, kBV_a, kBV2_tt, kBV2_ff, kBV2_tf, kBV2_ft, kBT_tt, kBT_ff, kBT_tf, kBT_ft, kComp_a, kSrc_a, kChain_a, kChain2_a, kChain3_t, kChain3_f, kSet_a, kPar_a, kUnp_a, kFor_a, gV_d, gV_dk, gO_d, gO_o, var_v, var_o, var_t, oV_d, oV_own, tV_d, tV_own, vB_s, oB_s, non_v, non_o, bl_v, bl_o, bl_t, int_v, int_o, str_v, str_o, glb_v, glb_o, tup_v, tup_o, lst_v, lst_o, bin_v, bin_o, bin_t, cmp_t, cmp_v, cmp_o, isN_t, isN_v, isi_t, isi_v, not_t, bop_v, bop_o, bop_t, ife_v, ife_o, idx_v, idx_o, slA_v, slA_o, slB_v, slB_o, call_v, call_o, call_t, callk_v, blt_v, blt_o, comp_v, comp_o, compIf_v, compIf_o, dict0_v, dict1_v, src_eq, rng1_v, zip_v, chain_t, as_nl, as_cs, ds_nl, ds_cs, os_nl, os_cs, vs_nl, vs_cs, es_nl, es_cs, bv_1, bv_2, bt_1, bt_2, s_nil, s_cons, s_set, s_setLc, s_par, s_unp, s_ite, s_loop, s_frz, s_app, rt_non, rt_bl, rt_int, rt_str, rt_glb, rt_tup, rt_lst, rt_bin, rt_cmp, rt_chain, rt_isN, rt_not, rt_bop, rt_ife, rt_idx, rt_slA, rt_slB, rt_call, rt_callk, rt_blt, rt_comp, rt_compIf, rt_isi, gR_s, rt_var, DV.dat, DV.fz, List.getElem?_cons_zero, List.getElem?_cons_succ, List.set_cons_zero, List.set_cons_succ, Option.map_some, Option.map_none, Option.bind_some, Option.bind_none, List.any_cons, List.any_nil, Bool.or_false, Bool.false_or, Bool.or_true, Bool.true_or, Bool.not_true, Bool.not_false, isTy, bltD, blt1, blt2, truthD, intD, setAll, setMany, slAB_v, slAB_o, kSlAB_a, kSlAB0_a, kSlAB1_a, kSlAB2_a, neg_v, neg_o, kNeg_i, notN_t, not_v, s_aug, kAug_a, s_whil, s_brk, s_cont, s_retN, s_popAt, callk_o, kCallk_a, kCallk2_a, dkey_i, dkey_s, kDict_a, kDictU_a, kDict2_d, wp_some, wp_bO, wp_thn, wp_endOf, wp_oV, wp_tV, wp_vB, wp_oB, kW_a, kT_a, kE_a, kOV_a, kTV_a, kVB_a, kOB_a]
        refine wdraw (m := 4) (by decide) (by decide) u2 (by omega) fun z q3 z1 z2 => ?_
        simp only [bO_some, bO_none, lO_some, lO_none, iB_t, iB_f, thn_nx, thn_rt, thn_bk, thn_ct, endOf_rt, endOf_nx, kLift_a, kOk_a, kO2_a, kIte_t, kIte_f, kIfe_t, kIfe_f, kCall_a, kArgs_a, kArgs2_a, kVals_a, kVals2_a, kOpd_a, kOpd2_a, kDat_a, kDat2_a, kBV_a, kBV2_tt, kBV2_ff, kBV2_tf, kBV2_ft, kBT_tt, kBT_ff, kBT_tf, kBT_ft, kComp_a, kSrc_a, kChain_a, kChain2_a, kChain3_t, kChain3_f, kSet_a, kPar_a, kUnp_a, kFor_a, gV_d, gV_dk, gO_d, gO_o, var_v, var_o, var_t, oV_d, oV_own, tV_d, tV_own, vB_s, oB_s, non_v, non_o, bl_v, bl_o, bl_t, int_v, int_o, str_v, str_o, glb_v, glb_o, tup_v, tup_o, lst_v, lst_o, bin_v, bin_o, bin_t, cmp_t, cmp_v, cmp_o, isN_t, isN_v, isi_t, isi_v, not_t, bop_v, bop_o, bop_t, ife_v, ife_o, idx_v, idx_o, slA_v, slA_o, slB_v, slB_o, call_v, call_o, call_t, callk_v, blt_v, blt_o, comp_v, comp_o, compIf_v, compIf_o, dict0_v, dict1_v, src_eq, rng1_v, zip_v, chain_t, as_nl, as_cs, ds_nl, ds_cs, os_nl, os_cs, vs_nl, vs_cs, es_nl, es_cs, bv_1, bv_2, bt_1, bt_2, s_nil, s_cons, s_set, s_setLc, s_par, s_unp, s_ite, s_loop, s_frz, s_app, rt_non, rt_bl, rt_int, rt_str, rt_glb, rt_tup, rt_lst, rt_bin, rt_cmp, rt_chain, rt_isN, rt_not, rt_bop, rt_ife, rt_idx, rt_slA, rt_slB, rt_call, rt_callk, rt_blt, rt_comp, rt_compIf, rt_isi, gR_s, rt_var, DV.dat, DV.fz, List.getElem?_cons_zero, List.getElem?_cons_succ, List.set_cons_zero, List.set_cons_succ, Option.map_some, Option.map_none, Option.bind_some, Option.bind_none, List.any_cons, List.any_nil, Bool.or_false, Bool.false_or, Bool.or_true, Bool.true_or, Bool.not_true, Bool.not_false, isTy, bltD, blt1, blt2, truthD, intD, setAll, setMany, slAB_v, slAB_o, kSlAB_a, kSlAB0_a, kSlAB1_a, kSlAB2_a, neg_v, neg_o, kNeg_i, notN_t, not_v, s_aug, kAug_a, s_whil, s_brk, s_cont, s_retN, s_popAt, callk_o, kCallk_a, kCallk2_a, dkey_i, dkey_s, kDict_a, kDictU_a, kDict2_d, wp_some, wp_bO, wp_thn, wp_endOf, wp_oV, wp_tV, wp_vB, wp_oB, kW_a, kT_a, kE_a, kOV_a, kTV_a, kVB_a, kOB_a, eq0N]
        by_cases hz : z = 0
        · have la : (es.take at').length + (es.drop (at' + 1)).length ≤ 10000000 := by rw [List.length_take, List.length_drop]; omega
          simp only [hz, decide_true, bO_some, bO_none, lO_some, lO_none, iB_t, iB_f, thn_nx, thn_rt, thn_bk, thn_ct, endOf_rt, endOf_nx, kLift_a, kOk_a, kO2_a, kIte_t, kIte_f, kIfe_t, kIfe_f, kCall_a, kArgs_a, kArgs2_a, kVals_a, kVals2_a, kOpd_a, kOpd2_a, kDat_a, kDat2_a, kBV_a, kBV2_tt, kBV2_ff, kBV2_tf, kBV2_ft, kBT_tt, kBT_ff, kBT_tf, kBT_ft, kComp_a, kSrc_a, kChain_a, kChain2_a, kChain3_t, kChain3_f, kSet_a, kPar_a, kUnp_a, kFor_a, gV_d, gV_dk, gO_d, gO_o, var_v, var_o, var_t, oV_d, oV_own, tV_d, tV_own, vB_s, oB_s, non_v, non_o, bl_v, bl_o, bl_t, int_v, int_o, str_v, str_o, glb_v, glb_o, tup_v, tup_o, lst_v, lst_o, bin_v, bin_o, bin_t, cmp_t, cmp_v, cmp_o, isN_t, isN_v, isi_t, isi_v, not_t, bop_v, bop_o, bop_t, ife_v, ife_o, idx_v, idx_o, slA_v, slA_o, slB_v, slB_o, call_v, call_o, call_t, callk_v, blt_v, blt_o, comp_v, comp_o, compIf_v, compIf_o, dict0_v, dict1_v, src_eq, rng1_v, zip_v, chain_t, as_nl, as_cs, ds_nl, ds_cs, os_nl, os_cs, vs_nl, vs_cs, es_nl, es_cs, bv_1, bv_2, bt_1, bt_2, s_nil, s_cons, s_set, s_setLc, s_par, s_unp, s_ite, s_loop, s_frz, s_app, rt_non, rt_bl, rt_int, rt_str, rt_glb, rt_tup, rt_lst, rt_bin, rt_cmp, rt_chain, rt_isN, rt_not, rt_bop, rt_ife, rt_idx, rt_slA, rt_slB, rt_call, rt_callk, rt_blt, rt_comp, rt_compIf, rt_isi, gR_s, rt_var, DV.dat, DV.fz, List.getElem?_cons_zero, List.getElem?_cons_succ, List.set_cons_zero, List.set_cons_succ, Option.map_some, Option.map_none, Option.bind_some, Option.bind_none, List.any_cons, List.any_nil, Bool.or_false, Bool.false_or, Bool.or_true, Bool.true_or, Bool.not_true, Bool.not_false, isTy, bltD, blt1, blt2, truthD, intD, setAll, setMany, slAB_v, slAB_o, kSlAB_a, kSlAB0_a, kSlAB1_a, kSlAB2_a, neg_v, neg_o, kNeg_i, notN_t, not_v, s_aug, kAug_a, s_whil, s_brk, s_cont, s_retN, s_popAt, callk_o, kCallk_a, kCallk2_a, dkey_i, dkey_s, kDict_a, kDictU_a, kDict2_d, wp_some, wp_bO, wp_thn, wp_endOf, wp_oV, wp_tV, wp_vB, wp_oB, kW_a, kT_a, kE_a, kOV_a, kTV_a, kVB_a, kOB_a, i1, slBn, addN1, slAn, tupAdd la]
          cases hr : es.take at' ++ es.drop (at' + 1) with
          | nil =>
            have l1 : es.length = 1 := by
              have := congrArg List.length hr
              rw [List.length_append, List.length_take, List.length_drop, List.length_nil] at this
              omega
            simp only [List.isEmpty_nil, bO_some, bO_none, lO_some, lO_none, iB_t, iB_f, thn_nx, thn_rt, thn_bk, thn_ct, endOf_rt, endOf_nx, kLift_a, kOk_a, kO2_a, kIte_t, kIte_f, kIfe_t, kIfe_f, kCall_a, kArgs_a, kArgs2_a, kVals_a, kVals2_a, kOpd_a, kOpd2_a, kDat_a, kDat2_a, kBV_a, kBV2_tt, kBV2_ff, kBV2_tf, kBV2_ft, kBT_tt, kBT_ff, kBT_tf, kBT_ft, kComp_a, kSrc_a, kChain_a, kChain2_a, kChain3_t, kChain3_f, kSet_a, kPar_a, kUnp_a, kFor_a, gV_d, gV_dk, gO_d, gO_o, var_v, var_o, var_t, oV_d, oV_own, tV_d, tV_own, vB_s, oB_s, non_v, non_o, bl_v, bl_o, bl_t, int_v, int_o, str_v, str_o, glb_v, glb_o, tup_v, tup_o, lst_v, lst_o, bin_v, bin_o, bin_t, cmp_t, cmp_v, cmp_o, isN_t, isN_v, isi_t, isi_v, not_t, bop_v, bop_o, bop_t, ife_v, ife_o, idx_v, idx_o, slA_v, slA_o, slB_v, slB_o, call_v, call_o, call_t, callk_v, blt_v, blt_o, comp_v, comp_o, compIf_v, compIf_o, dict0_v, dict1_v, src_eq, rng1_v, zip_v, chain_t, as_nl, as_cs, ds_nl, ds_cs, os_nl, os_cs, vs_nl, vs_cs, es_nl, es_cs, bv_1, bv_2, bt_1, bt_2, s_nil, s_cons, s_set, s_setLc, s_par, s_unp, s_ite, s_loop, s_frz, s_app, rt_non, rt_bl, rt_int, rt_str, rt_glb, rt_tup, rt_lst, rt_bin, rt_cmp, rt_chain, rt_isN, rt_not, rt_bop, rt_ife, rt_idx, rt_slA, rt_slB, rt_call, rt_callk, rt_blt, rt_comp, rt_compIf, rt_isi, gR_s, rt_var, DV.dat, DV.fz, List.getElem?_cons_zero, List.getElem?_cons_succ, List.set_cons_zero, List.set_cons_succ, Option.map_some, Option.map_none, Option.bind_some, Option.bind_none, List.any_cons, List.any_nil, Bool.or_false, Bool.false_or, Bool.or_true, Bool.true_or, Bool.not_true, Bool.not_false, isTy, bltD, blt1, blt2, truthD, intD, setAll, setMany, slAB_v, slAB_o, kSlAB_a, kSlAB0_a, kSlAB1_a, kSlAB2_a, neg_v, neg_o, kNeg_i, notN_t, not_v, s_aug, kAug_a, s_whil, s_brk, s_cont, s_retN, s_popAt, callk_o, kCallk_a, kCallk2_a, dkey_i, dkey_s, kDict_a, kDictU_a, kDict2_d, wp_some, wp_bO, wp_thn, wp_endOf, wp_oV, wp_tV, wp_vB, wp_oB, kW_a, kT_a, kE_a, kOV_a, kTV_a, kVB_a, kOB_a, i1, tupMul (xs := es) (k := 2) (by decide) (by decide) (by omega)]
            have e5 : binD .Mult (.tuple es) (.int 2) = some (.d (.tuple (List.replicate 2 es).flatten)) := tupMul (xs := es) (k := 2) (by decide) (by decide) (by omega)
            simp only [bO_some, bO_none, lO_some, lO_none, iB_t, iB_f, thn_nx, thn_rt, thn_bk, thn_ct, endOf_rt, endOf_nx, kLift_a, kOk_a, kO2_a, kIte_t, kIte_f, kIfe_t, kIfe_f, kCall_a, kArgs_a, kArgs2_a, kVals_a, kVals2_a, kOpd_a, kOpd2_a, kDat_a, kDat2_a, kBV_a, kBV2_tt, kBV2_ff, kBV2_tf, kBV2_ft, kBT_tt, kBT_ff, kBT_tf, kBT_ft, kComp_a, kSrc_a, kChain_a, kChain2_a, kChain3_t, kChain3_f, kSet_a, kPar_a, kUnp_a, kFor_a, gV_d, gV_dk, gO_d, gO_o, var_v, var_o, var_t, oV_d, oV_own, tV_d, tV_own, vB_s, oB_s, non_v, non_o, bl_v, bl_o, bl_t, int_v, int_o, str_v, str_o, glb_v, glb_o, tup_v, tup_o, lst_v, lst_o, bin_v, bin_o, bin_t, cmp_t, cmp_v, cmp_o, isN_t, isN_v, isi_t, isi_v, not_t, bop_v, bop_o, bop_t, ife_v, ife_o, idx_v, idx_o, slA_v, slA_o, slB_v, slB_o, call_v, call_o, call_t, callk_v, blt_v, blt_o, comp_v, comp_o, compIf_v, compIf_o, dict0_v, dict1_v, src_eq, rng1_v, zip_v, chain_t, as_nl, as_cs, ds_nl, ds_cs, os_nl, os_cs, vs_nl, vs_cs, es_nl, es_cs, bv_1, bv_2, bt_1, bt_2, s_nil, s_cons, s_set, s_setLc, s_par, s_unp, s_ite, s_loop, s_frz, s_app, rt_non, rt_bl, rt_int, rt_str, rt_glb, rt_tup, rt_lst, rt_bin, rt_cmp, rt_chain, rt_isN, rt_not, rt_bop, rt_ife, rt_idx, rt_slA, rt_slB, rt_call, rt_callk, rt_blt, rt_comp, rt_compIf, rt_isi, gR_s, rt_var, DV.dat, DV.fz, List.getElem?_cons_zero, List.getElem?_cons_succ, List.set_cons_zero, List.set_cons_succ, Option.map_some, Option.map_none, Option.bind_some, Option.bind_none, List.any_cons, List.any_nil, Bool.or_false, Bool.false_or, Bool.or_true, Bool.true_or, Bool.not_true, Bool.not_false, isTy, bltD, blt1, blt2, truthD, intD, setAll, setMany, slAB_v, slAB_o, kSlAB_a, kSlAB0_a, kSlAB1_a, kSlAB2_a, neg_v, neg_o, kNeg_i, notN_t, not_v, s_aug, kAug_a, s_whil, s_brk, s_cont, s_retN, s_popAt, callk_o, kCallk_a, kCallk2_a, dkey_i, dkey_s, kDict_a, kDictU_a, kDict2_d, wp_some, wp_bO, wp_thn, wp_endOf, wp_oV, wp_tV, wp_vB, wp_oB, kW_a, kT_a, kE_a, kOV_a, kTV_a, kVB_a, kOB_a, e5]
            have e6 : (List.replicate 2 es).flatten = es ++ es := by simp [List.replicate_succ]
            rw [e6]
            refine hQ _ q3 (kd_rw (by simp [e1]) (by rw [List.length_append]; omega) fun d hd => ?_) (z2.mono (by omega))
            rw [List.mem_append, or_self] at hd
            exact (e3 d hd).mono (by omega)
          | cons y ys =>
            simp only [List.isEmpty_cons, bO_some, bO_none, lO_some, lO_none, iB_t, iB_f, thn_nx, thn_rt, thn_bk, thn_ct, endOf_rt, endOf_nx, kLift_a, kOk_a, kO2_a, kIte_t, kIte_f, kIfe_t, kIfe_f, kCall_a, kArgs_a, kArgs2_a, kVals_a, kVals2_a, kOpd_a, kOpd2_a, kDat_a, kDat2_a, kBV_a, kBV2_tt, kBV2_ff, kBV2_tf, kBV2_ft, kBT_tt, kBT_ff, kBT_tf, kBT_ft, kComp_a, kSrc_a, kChain_a, kChain2_a, kChain3_t, kChain3_f, kSet_a, kPar_a, kUnp_a, kFor_a, gV_d, gV_dk, gO_d, gO_o, var_v, var_o, var_t, oV_d, oV_own, tV_d, tV_own, vB_s, oB_s, non_v, non_o, bl_v, bl_o, bl_t, int_v, int_o, str_v, str_o, glb_v, glb_o, tup_v, tup_o, lst_v, lst_o, bin_v, bin_o, bin_t, cmp_t, cmp_v, cmp_o, isN_t, isN_v, isi_t, isi_v, not_t, bop_v, bop_o, bop_t, ife_v, ife_o, idx_v, idx_o, slA_v, slA_o, slB_v, slB_o, call_v, call_o, call_t, callk_v, blt_v, blt_o, comp_v, comp_o, compIf_v, compIf_o, dict0_v, dict1_v, src_eq, rng1_v, zip_v, chain_t, as_nl, as_cs, ds_nl, ds_cs, os_nl, os_cs, vs_nl, vs_cs, es_nl, es_cs, bv_1, bv_2, bt_1, bt_2, s_nil, s_cons, s_set, s_setLc, s_par, s_unp, s_ite, s_loop, s_frz, s_app, rt_non, rt_bl, rt_int, rt_str, rt_glb, rt_tup, rt_lst, rt_bin, rt_cmp, rt_chain, rt_isN, rt_not, rt_bop, rt_ife, rt_idx, rt_slA, rt_slB, rt_call, rt_callk, rt_blt, rt_comp, rt_compIf, rt_isi, gR_s, rt_var, DV.dat, DV.fz, List.getElem?_cons_zero, List.getElem?_cons_succ, List.set_cons_zero, List.set_cons_succ, Option.map_some, Option.map_none, Option.bind_some, Option.bind_none, List.any_cons, List.any_nil, Bool.or_false, Bool.false_or, Bool.or_true, Bool.true_or, Bool.not_true, Bool.not_false, isTy, bltD, blt1, blt2, truthD, intD, setAll, setMany, slAB_v, slAB_o, kSlAB_a, kSlAB0_a, kSlAB1_a, kSlAB2_a, neg_v, neg_o, kNeg_i, notN_t, not_v, s_aug, kAug_a, s_whil, s_brk, s_cont, s_retN, s_popAt, callk_o, kCallk_a, kCallk2_a, dkey_i, dkey_s, kDict_a, kDictU_a, kDict2_d, wp_some, wp_bO, wp_thn, wp_endOf, wp_oV, wp_tV, wp_vB, wp_oB, kW_a, kT_a, kE_a, kOV_a, kTV_a, kVB_a, kOB_a]
            rw [← hr]
            refine hQ _ q3 (kd_rw (by rw [hr]; simp) (by rw [List.length_append, List.length_take, List.length_drop]; omega) fun d hd => ?_) (z2.mono (by omega))
            rw [List.mem_append] at hd
            rcases hd with hd | hd
            · exact (e3 d (List.mem_of_mem_take hd)).mono (by omega)
            · exact (e3 d (List.mem_of_mem_drop hd)).mono (by omega)
        · have ix : idxV (.tuple es) (.int at') = some (.d es[at']) := by
            simp only [idxV, idxD, atI_nat u1, Option.map_some]
          simp only [hz, decide_false, bO_some, bO_none, lO_some, lO_none, iB_t, iB_f, thn_nx, thn_rt, thn_bk, thn_ct, endOf_rt, endOf_nx, kLift_a, kOk_a, kO2_a, kIte_t, kIte_f, kIfe_t, kIfe_f, kCall_a, kArgs_a, kArgs2_a, kVals_a, kVals2_a, kOpd_a, kOpd2_a, kDat_a, kDat2_a, kBV_a, kBV2_tt, kBV2_ff, kBV2_tf, kBV2_ft, kBT_tt, kBT_ff, kBT_tf, kBT_ft, kComp_a, kSrc_a, kChain_a, kChain2_a, kChain3_t, kChain3_f, kSet_a, kPar_a, kUnp_a, kFor_a, gV_d, gV_dk, gO_d, gO_o, var_v, var_o, var_t, oV_d, oV_own, tV_d, tV_own, vB_s, oB_s, non_v, non_o, bl_v, bl_o, bl_t, int_v, int_o, str_v, str_o, glb_v, glb_o, tup_v, tup_o, lst_v, lst_o, bin_v, bin_o, bin_t, cmp_t, cmp_v, cmp_o, isN_t, isN_v, isi_t, isi_v, not_t, bop_v, bop_o, bop_t, ife_v, ife_o, idx_v, idx_o, slA_v, slA_o, slB_v, slB_o, call_v, call_o, call_t, callk_v, blt_v, blt_o, comp_v, comp_o, compIf_v, compIf_o, dict0_v, dict1_v, src_eq, rng1_v, zip_v, chain_t, as_nl, as_cs, ds_nl, ds_cs, os_nl, os_cs, vs_nl, vs_cs, es_nl, es_cs, bv_1, bv_2, bt_1, bt_2, s_nil, s_cons, s_set, s_setLc, s_par, s_unp, s_ite, s_loop, s_frz, s_app, rt_non, rt_bl, rt_int, rt_str, rt_glb, rt_tup, rt_lst, rt_bin, rt_cmp, rt_chain, rt_isN, rt_not, rt_bop, rt_ife, rt_idx, rt_slA, rt_slB, rt_call, rt_callk, rt_blt, rt_comp, rt_compIf, rt_isi, gR_s, rt_var, DV.dat, DV.fz, List.getElem?_cons_zero, List.getElem?_cons_succ, List.set_cons_zero, List.set_cons_succ, Option.map_some, Option.map_none, Option.bind_some, Option.bind_none, List.any_cons, List.any_nil, Bool.or_false, Bool.false_or, Bool.or_true, Bool.true_or, Bool.not_true, Bool.not_false, isTy, bltD, blt1, blt2, truthD, intD, setAll, setMany, slAB_v, slAB_o, kSlAB_a, kSlAB0_a, kSlAB1_a, kSlAB2_a, neg_v, neg_o, kNeg_i, notN_t, not_v, s_aug, kAug_a, s_whil, s_brk, s_cont, s_retN, s_popAt, callk_o, kCallk_a, kCallk2_a, dkey_i, dkey_s, kDict_a, kDictU_a, kDict2_d, wp_some, wp_bO, wp_thn, wp_endOf, wp_oV, wp_tV, wp_vB, wp_oB, kW_a, kT_a, kE_a, kOV_a, kTV_a, kVB_a, kOB_a, i1, slBn, ix]
          refine changed m (n + 1) es[at'] (c + 3) q3 _ (by omega) (e3 _ (List.getElem_mem u1)) (z2.mono (by omega)) (by omega) fun d q' h2 h3 => ?_
          have la : (es.take at').length + [d].length ≤ 10000000 := by rw [List.length_take]; simp; omega
          have lb : (es.take at' ++ [d]).length + (es.drop (at' + 1)).length ≤ 10000000 := by rw [List.length_append, List.length_take, List.length_drop]; simp; omega
          simp only [bO_some, bO_none, lO_some, lO_none, iB_t, iB_f, thn_nx, thn_rt, thn_bk, thn_ct, endOf_rt, endOf_nx, kLift_a, kOk_a, kO2_a, kIte_t, kIte_f, kIfe_t, kIfe_f, kCall_a, kArgs_a, kArgs2_a, kVals_a, kVals2_a, kOpd_a, kOpd2_a, kDat_a, kDat2_a, kBV_a, kBV2_tt, kBV2_ff, kBV2_tf, kBV2_ft, kBT_tt, kBT_ff, kBT_tf, kBT_ft, kComp_a, kSrc_a, kChain_a, kChain2_a, kChain3_t, kChain3_f, kSet_a, kPar_a, kUnp_a, kFor_a, gV_d, gV_dk, gO_d, gO_o, var_v, var_o, var_t, oV_d, oV_own, tV_d, tV_own, vB_s, oB_s, non_v, non_o, bl_v, bl_o, bl_t, int_v, int_o, str_v, str_o, glb_v, glb_o, tup_v, tup_o, lst_v, lst_o, bin_v, bin_o, bin_t, cmp_t, cmp_v, cmp_o, isN_t, isN_v, isi_t, isi_v, not_t, bop_v, bop_o, bop_t, ife_v, ife_o, idx_v, idx_o, slA_v, slA_o, slB_v, slB_o, call_v, call_o, call_t, callk_v, blt_v, blt_o, comp_v, comp_o, compIf_v, compIf_o, dict0_v, dict1_v, src_eq, rng1_v, zip_v, chain_t, as_nl, as_cs, ds_nl, ds_cs, os_nl, os_cs, vs_nl, vs_cs, es_nl, es_cs, bv_1, bv_2, bt_1, bt_2, s_nil, s_cons, s_set, s_setLc, s_par, s_unp, s_ite, s_loop, s_frz, s_app, rt_non, rt_bl, rt_int, rt_str, rt_glb, rt_tup, rt_lst, rt_bin, rt_cmp, rt_chain, rt_isN, rt_not, rt_bop, rt_ife, rt_idx, rt_slA, rt_slB, rt_call, rt_callk, rt_blt, rt_comp, rt_compIf, rt_isi, gR_s, rt_var, DV.dat, DV.fz, List.getElem?_cons_zero, List.getElem?_cons_succ, List.set_cons_zero, List.set_cons_succ, Option.map_some, Option.map_none, Option.bind_some, Option.bind_none, List.any_cons, List.any_nil, Bool.or_false, Bool.false_or, Bool.or_true, Bool.true_or, Bool.not_true, Bool.not_false, isTy, bltD, blt1, blt2, truthD, intD, setAll, setMany, slAB_v, slAB_o, kSlAB_a, kSlAB0_a, kSlAB1_a, kSlAB2_a, neg_v, neg_o, kNeg_i, notN_t, not_v, s_aug, kAug_a, s_whil, s_brk, s_cont, s_retN, s_popAt, callk_o, kCallk_a, kCallk2_a, dkey_i, dkey_s, kDict_a, kDictU_a, kDict2_d, wp_some, wp_bO, wp_thn, wp_endOf, wp_oV, wp_tV, wp_vB, wp_oB, kW_a, kT_a, kE_a, kOV_a, kTV_a, kVB_a, kOB_a, tupAdd la, i1, addN1, slAn, tupAdd lb]
          refine hQ _ q' (kd_rw (by simp) (by rw [List.length_append, List.length_append, List.length_take, List.length_drop]; simp; omega) fun x hx => ?_) (h3.mono (by omega))
          rw [List.mem_append, List.mem_append, List.mem_singleton] at hx
          rcases hx with (hx | rfl) | hx
          · exact (e3 x (List.mem_of_mem_take hx)).mono (by omega)
          · exact h2
          · exact (e3 x (List.mem_of_mem_drop hx)).mono (by omega)
end K06

set_option maxHeartbeats 4000000
/-! k06: sizes; odd and bent things; deep things. -/
namespace K06
open PySem TA TM
theorem szUntup {b e : Nat} {xs : List PyData} (h : Sz b e (.tuple xs)) : 1 ≤ e ∧ Szs b (e - 1) xs := by
  have h3 := h.dp
  simp only [PyData.depth] at h3
  refine ⟨by omega, by simpa [PyData.showable] using h.sh, ?_, by omega⟩
  have h2 := h.ln
  simp only [PyData.shown, tupleText] at h2
  rw [strLen_append, strLen_append] at h2
  by_cases hx : PyData.shownAll xs = []
  · rw [hx]; simp [piled]
  · have j := join_length_add _ hx
    have l3 : (("(" : String) : Str).length = 1 := rfl
    have l4 : ∀ b : Bool, 1 ≤ (((if b then ",)" else ")" : String)) : Str).length := fun b => by cases b <;> decide
    have := l4 ((PyData.shownAll xs).length == 1)
    omega
theorem sz_none : Sz 10 0 .none := ⟨rfl, by decide +kernel, by simp [PyData.depth]⟩
theorem sz_set : Sz 10 0 (.str "set") := ⟨rfl, by decide +kernel, by simp [PyData.depth]⟩
theorem sz_row : Sz 10 0 (.str "row") := ⟨rfl, by decide +kernel, by simp [PyData.depth]⟩
theorem sz_atom : Sz 10 0 (.str "atom") := ⟨rfl, by decide +kernel, by simp [PyData.depth]⟩
theorem sz1 {b e : Nat} {d : PyData} (h : Sz b e d) : Sz (b + 20) (e + 1) (.tuple [d]) := (Szs.cons h (szs_nil 0 e)).tup.mono (by omega) (Nat.le_refl _)
theorem szl1 {b e : Nat} {d : PyData} (h : Sz b e d) : Sz (b + 20) (e + 1) (.list [d]) := (Szs.cons h (szs_nil 0 e)).lst.mono (by omega) (Nat.le_refl _)
theorem sz2 {b e : Nat} {w d : PyData} (hw : Sz 10 0 w) (h : Sz b e d) : Sz (b + 20) (e + 1) (.tuple [w, d]) := (Szs.cons (hw.mono (Nat.le_refl _) (Nat.zero_le e)) (Szs.cons h (szs_nil 0 e))).tup.mono (by omega) (Nat.le_refl _)
def fS : Nat → Nat
  | 0 => 0
  | n + 1 => 4 * fS n + 40
theorem Kd.sz : ∀ {n : Nat} {d : PyData}, Kd n d → Sz (fS n) (2 * n) d
  | 0, _, h => h.elim
  | n + 1, d, h => by
    have hf : fS (n + 1) = 4 * fS n + 40 := rfl
    rcases h with ⟨x, rfl, hx⟩ | rfl | ⟨e, rfl, h⟩ | ⟨es, rfl, _, h4, h⟩
    · refine Sz.mono (b := 10) (e := 0) ?_ (by omega) (by omega)
      simp only [pl, Bool.or_eq_true, beq_iff_eq, Bool.false_eq_true, or_false] at hx
      rcases hx with rfl | rfl | rfl <;> exact ⟨rfl, by decide +kernel, by simp [PyData.depth]⟩
    · exact (sz2 sz_set sz_none).mono (by omega) (by omega)
    · exact (sz2 sz_set h.sz).mono (by omega) (by omega)
    · have s := Szs.ofAll fun x hx => (h x hx).sz
      have l : es.length * (fS n + 2) ≤ 4 * (fS n + 2) := Nat.mul_le_mul_right _ h4
      exact (sz2 sz_row s.tup).mono (by omega) (by omega)
theorem Kd.rep {n : Nat} {d : PyData} (h : Kd n d) (l : n ≤ 9) : repOk d = true := by
  have : fS n ≤ fS 9 := by
    have mono : ∀ k, fS n ≤ fS (n + k) := fun k => by
      induction k with
      | zero => exact Nat.le_refl _
      | succ k ih => exact Nat.le_trans ih (by show fS (n + k) ≤ 4 * fS (n + k) + 40; omega)
    have := mono (9 - n)
    rwa [show n + (9 - n) = 9 by omega] at this
  exact repOk_of (h.sz.mono this (Nat.le_refl _)) (by decide +kernel) (by omega)
/-! ### odd things -/
theorem odd {n : Nat} {c : Int} {q : Dk} {d : PyData} {b e : Nat} {Q : DV → OD → Prop} (hs : Sz b e d) (h : DkOk c q) (hc : c < 1000000000) (hQ : ∀ x q', Sz (5 * b + 200) (e + 6) x → DkOk (c + 1) q' → Q (.d x) (some q')) : Wp (callD Pg (n + 3) 14 [.dk, .d d] (some q)) Q := by
  show Wp (endOf (evSs (CX (n + 2)) b14 [some .dk, some (.d d), none] (some q))) Q
  have m5 : binD .Mult (.tuple [d]) (.int 5) = some (.d (.tuple [d, d, d, d, d])) := tupMul (xs := [d]) (k := 5) (by decide) (by decide) (by simp)
  unfold b14
  simp only [bO_some, bO_none, lO_some, lO_none, iB_t, iB_f, thn_nx, thn_rt, thn_bk, thn_ct, endOf_rt, endOf_nx, kLift_a, kOk_a, kO2_a, kIte_t, kIte_f, kIfe_t, kIfe_f, kCall_a, kArgs_a, kArgs2_a, kVals_a, kVals2_a, kOpd_a, kOpd2_a, kDat_a, kDat2_a, kBV_a, kBV2_tt, kBV2_ff, kBV2_tf, kBV2_ft, kBT_tt, kBT_ff, kBT_tf, kBT_ft, kComp_a, kSrc_a, kChain_a, kChain2_a, kChain3_t, kChain3_f, kSet_a, kPar_a, kUnp_a, kFor_a, gV_d, gV_dk, gO_d, gO_o, var_v, var_o, var_t, oV_d, oV_own, tV_d, tV_own, vB_s, oB_s, non_v, non_o, bl_v, bl_o, bl_t, int_v, int_o, str_v, str_o, glb_v, glb_o, tup_v, tup_o, lst_v, lst_o, bin_v, bin_o, bin_t, cmp_t, cmp_v, cmp_o, isN_t, isN_v, isi_t, isi_v, not_t, bop_v, bop_o, bop_t, ife_v, ife_o, idx_v, idx_o, slA_v, slA_o, slB_v, slB_o, call_v, call_o, call_t, callk_v, blt_v, blt_o, comp_v, comp_o, compIf_v, compIf_o, dict0_v, dict1_v, src_eq, rng1_v, zip_v, chain_t, as_nl, as_cs, ds_nl, ds_cs, os_nl, os_cs, vs_nl, vs_cs, es_nl, es_cs, bv_1, bv_2, bt_1, bt_2, s_nil, s_cons, s_set, s_setLc, s_par, s_unp, s_ite, s_loop, s_frz, s_app, rt_non, rt_bl, rt_int, rt_str, rt_glb, rt_tup, rt_lst, rt_bin, rt_cmp, rt_chain, rt_isN, rt_not, rt_bop, rt_ife, rt_idx, rt_slA, rt_slB, rt_call, rt_callk, rt_blt, rt_comp, rt_compIf, rt_isi, gR_s, rt_var, DV.dat, DV.fz, List.getElem?_cons_zero, List.getElem?_cons_succ, List.set_cons_zero, List.set_cons_succ, Option.map_some, Option.map_none, Option.bind_some, Option.bind_none, List.any_cons, List.any_nil, Bool.or_false, Bool.false_or, Bool.or_true, Bool.true_or, Bool.not_true, Bool.not_false, isTy, bltD, blt1, blt2, truthD, intD, setAll, setMany, slAB_v, slAB_o, kSlAB_a, kSlAB0_a, kSlAB1_a, kSlAB2_a, neg_v, neg_o, kNeg_i, notN_t, not_v, s_aug, kAug_a, s_whil, s_brk, s_cont, s_retN, s_popAt, callk_o, kCallk_a, kCallk2_a, dkey_i, dkey_s, kDict_a, kDictU_a, kDict2_d, wp_some, wp_bO, wp_thn, wp_endOf, wp_oV, wp_tV, wp_vB, wp_oB, kW_a, kT_a, kE_a, kOV_a, kTV_a, kVB_a, kOB_a, m5]
  rw [lstAdd (by simp)]
  simp only [bO_some, bO_none, lO_some, lO_none, iB_t, iB_f, thn_nx, thn_rt, thn_bk, thn_ct, endOf_rt, endOf_nx, kLift_a, kOk_a, kO2_a, kIte_t, kIte_f, kIfe_t, kIfe_f, kCall_a, kArgs_a, kArgs2_a, kVals_a, kVals2_a, kOpd_a, kOpd2_a, kDat_a, kDat2_a, kBV_a, kBV2_tt, kBV2_ff, kBV2_tf, kBV2_ft, kBT_tt, kBT_ff, kBT_tf, kBT_ft, kComp_a, kSrc_a, kChain_a, kChain2_a, kChain3_t, kChain3_f, kSet_a, kPar_a, kUnp_a, kFor_a, gV_d, gV_dk, gO_d, gO_o, var_v, var_o, var_t, oV_d, oV_own, tV_d, tV_own, vB_s, oB_s, non_v, non_o, bl_v, bl_o, bl_t, int_v, int_o, str_v, str_o, glb_v, glb_o, tup_v, tup_o, lst_v, lst_o, bin_v, bin_o, bin_t, cmp_t, cmp_v, cmp_o, isN_t, isN_v, isi_t, isi_v, not_t, bop_v, bop_o, bop_t, ife_v, ife_o, idx_v, idx_o, slA_v, slA_o, slB_v, slB_o, call_v, call_o, call_t, callk_v, blt_v, blt_o, comp_v, comp_o, compIf_v, compIf_o, dict0_v, dict1_v, src_eq, rng1_v, zip_v, chain_t, as_nl, as_cs, ds_nl, ds_cs, os_nl, os_cs, vs_nl, vs_cs, es_nl, es_cs, bv_1, bv_2, bt_1, bt_2, s_nil, s_cons, s_set, s_setLc, s_par, s_unp, s_ite, s_loop, s_frz, s_app, rt_non, rt_bl, rt_int, rt_str, rt_glb, rt_tup, rt_lst, rt_bin, rt_cmp, rt_chain, rt_isN, rt_not, rt_bop, rt_ife, rt_idx, rt_slA, rt_slB, rt_call, rt_callk, rt_blt, rt_comp, rt_compIf, rt_isi, gR_s, rt_var, DV.dat, DV.fz, List.getElem?_cons_zero, List.getElem?_cons_succ, List.set_cons_zero, List.set_cons_succ, Option.map_some, Option.map_none, Option.bind_some, Option.bind_none, List.any_cons, List.any_nil, Bool.or_false, Bool.false_or, Bool.or_true, Bool.true_or, Bool.not_true, Bool.not_false, isTy, bltD, blt1, blt2, truthD, intD, setAll, setMany, slAB_v, slAB_o, kSlAB_a, kSlAB0_a, kSlAB1_a, kSlAB2_a, neg_v, neg_o, kNeg_i, notN_t, not_v, s_aug, kAug_a, s_whil, s_brk, s_cont, s_retN, s_popAt, callk_o, kCallk_a, kCallk2_a, dkey_i, dkey_s, kDict_a, kDictU_a, kDict2_d, wp_some, wp_bO, wp_thn, wp_endOf, wp_oV, wp_tV, wp_vB, wp_oB, kW_a, kT_a, kE_a, kOV_a, kTV_a, kVB_a, kOB_a]
  rw [lstAdd (by simp)]
  simp only [bO_some, bO_none, lO_some, lO_none, iB_t, iB_f, thn_nx, thn_rt, thn_bk, thn_ct, endOf_rt, endOf_nx, kLift_a, kOk_a, kO2_a, kIte_t, kIte_f, kIfe_t, kIfe_f, kCall_a, kArgs_a, kArgs2_a, kVals_a, kVals2_a, kOpd_a, kOpd2_a, kDat_a, kDat2_a, kBV_a, kBV2_tt, kBV2_ff, kBV2_tf, kBV2_ft, kBT_tt, kBT_ff, kBT_tf, kBT_ft, kComp_a, kSrc_a, kChain_a, kChain2_a, kChain3_t, kChain3_f, kSet_a, kPar_a, kUnp_a, kFor_a, gV_d, gV_dk, gO_d, gO_o, var_v, var_o, var_t, oV_d, oV_own, tV_d, tV_own, vB_s, oB_s, non_v, non_o, bl_v, bl_o, bl_t, int_v, int_o, str_v, str_o, glb_v, glb_o, tup_v, tup_o, lst_v, lst_o, bin_v, bin_o, bin_t, cmp_t, cmp_v, cmp_o, isN_t, isN_v, isi_t, isi_v, not_t, bop_v, bop_o, bop_t, ife_v, ife_o, idx_v, idx_o, slA_v, slA_o, slB_v, slB_o, call_v, call_o, call_t, callk_v, blt_v, blt_o, comp_v, comp_o, compIf_v, compIf_o, dict0_v, dict1_v, src_eq, rng1_v, zip_v, chain_t, as_nl, as_cs, ds_nl, ds_cs, os_nl, os_cs, vs_nl, vs_cs, es_nl, es_cs, bv_1, bv_2, bt_1, bt_2, s_nil, s_cons, s_set, s_setLc, s_par, s_unp, s_ite, s_loop, s_frz, s_app, rt_non, rt_bl, rt_int, rt_str, rt_glb, rt_tup, rt_lst, rt_bin, rt_cmp, rt_chain, rt_isN, rt_not, rt_bop, rt_ife, rt_idx, rt_slA, rt_slB, rt_call, rt_callk, rt_blt, rt_comp, rt_compIf, rt_isi, gR_s, rt_var, DV.dat, DV.fz, List.getElem?_cons_zero, List.getElem?_cons_succ, List.set_cons_zero, List.set_cons_succ, Option.map_some, Option.map_none, Option.bind_some, Option.bind_none, List.any_cons, List.any_nil, Bool.or_false, Bool.false_or, Bool.or_true, Bool.true_or, Bool.not_true, Bool.not_false, isTy, bltD, blt1, blt2, truthD, intD, setAll, setMany, slAB_v, slAB_o, kSlAB_a, kSlAB0_a, kSlAB1_a, kSlAB2_a, neg_v, neg_o, kNeg_i, notN_t, not_v, s_aug, kAug_a, s_whil, s_brk, s_cont, s_retN, s_popAt, callk_o, kCallk_a, kCallk2_a, dkey_i, dkey_s, kDict_a, kDictU_a, kDict2_d, wp_some, wp_bO, wp_thn, wp_endOf, wp_oV, wp_tV, wp_vB, wp_oB, kW_a, kT_a, kE_a, kOV_a, kTV_a, kVB_a, kOB_a]
  refine wpick (by simp) (by simp) h hc fun x q' hx hq' => ?_
  simp only [bO_some, bO_none, lO_some, lO_none, iB_t, iB_f, thn_nx, thn_rt, thn_bk, thn_ct, endOf_rt, endOf_nx, kLift_a, kOk_a, kO2_a, kIte_t, kIte_f, kIfe_t, kIfe_f, kCall_a, kArgs_a, kArgs2_a, kVals_a, kVals2_a, kOpd_a, kOpd2_a, kDat_a, kDat2_a, kBV_a, kBV2_tt, kBV2_ff, kBV2_tf, kBV2_ft, kBT_tt, kBT_ff, kBT_tf, kBT_ft, kComp_a, kSrc_a, kChain_a, kChain2_a, kChain3_t, kChain3_f, kSet_a, kPar_a, kUnp_a, kFor_a, gV_d, gV_dk, gO_d, gO_o, var_v, var_o, var_t, oV_d, oV_own, tV_d, tV_own, vB_s, oB_s, non_v, non_o, bl_v, bl_o, bl_t, int_v, int_o, str_v, str_o, glb_v, glb_o, tup_v, tup_o, lst_v, lst_o, bin_v, bin_o, bin_t, cmp_t, cmp_v, cmp_o, isN_t, isN_v, isi_t, isi_v, not_t, bop_v, bop_o, bop_t, ife_v, ife_o, idx_v, idx_o, slA_v, slA_o, slB_v, slB_o, call_v, call_o, call_t, callk_v, blt_v, blt_o, comp_v, comp_o, compIf_v, compIf_o, dict0_v, dict1_v, src_eq, rng1_v, zip_v, chain_t, as_nl, as_cs, ds_nl, ds_cs, os_nl, os_cs, vs_nl, vs_cs, es_nl, es_cs, bv_1, bv_2, bt_1, bt_2, s_nil, s_cons, s_set, s_setLc, s_par, s_unp, s_ite, s_loop, s_frz, s_app, rt_non, rt_bl, rt_int, rt_str, rt_glb, rt_tup, rt_lst, rt_bin, rt_cmp, rt_chain, rt_isN, rt_not, rt_bop, rt_ife, rt_idx, rt_slA, rt_slB, rt_call, rt_callk, rt_blt, rt_comp, rt_compIf, rt_isi, gR_s, rt_var, DV.dat, DV.fz, List.getElem?_cons_zero, List.getElem?_cons_succ, List.set_cons_zero, List.set_cons_succ, Option.map_some, Option.map_none, Option.bind_some, Option.bind_none, List.any_cons, List.any_nil, Bool.or_false, Bool.false_or, Bool.or_true, Bool.true_or, Bool.not_true, Bool.not_false, isTy, bltD, blt1, blt2, truthD, intD, setAll, setMany, slAB_v, slAB_o, kSlAB_a, kSlAB0_a, kSlAB1_a, kSlAB2_a, neg_v, neg_o, kNeg_i, notN_t, not_v, s_aug, kAug_a, s_whil, s_brk, s_cont, s_retN, s_popAt, callk_o, kCallk_a, kCallk2_a, dkey_i, dkey_s, kDict_a, kDictU_a, kDict2_d, wp_some, wp_bO, wp_thn, wp_endOf, wp_oV, wp_tV, wp_vB, wp_oB, kW_a, kT_a, kE_a, kOV_a, kTV_a, kVB_a, kOB_a]
  refine hQ x q' ?_ hq'
  have C : ∀ y, Sz 40 3 y → Sz (5 * b + 200) (e + 6) y := fun y h => h.mono (by omega) (by omega)
  simp only [List.cons_append, List.nil_append, List.mem_cons, List.not_mem_nil, or_false] at hx
  rcases hx with rfl | rfl | rfl | rfl | rfl | rfl | rfl | rfl | rfl | rfl | rfl | rfl | rfl | rfl | rfl | rfl | rfl | rfl | rfl | rfl | rfl | rfl | rfl | rfl
  · exact C _ (sz_none.mono (by decide) (by decide))
  · exact C _ ⟨by decide +kernel, by decide +kernel, by simp [PyData.depth]⟩
  · exact C _ ⟨by decide +kernel, by decide +kernel, by simp [PyData.depth]⟩
  · exact C _ ⟨by decide +kernel, by decide +kernel, by simp [PyData.depth]⟩
  · exact C _ ⟨by decide +kernel, by decide +kernel, by simp [PyData.depth]⟩
  · exact C _ ⟨by decide +kernel, by decide +kernel, by simp [PyData.depth]⟩
  · exact C _ (sz_set.mono (by decide) (by decide))
  · exact C _ (sz_row.mono (by decide) (by decide))
  · exact C _ ⟨by decide +kernel, by decide +kernel, by simp [PyData.depth, PyData.depthAll]⟩
  · exact C _ ⟨by decide +kernel, by decide +kernel, by simp [PyData.depth, PyData.depthAll]⟩
  · exact C _ ⟨by decide +kernel, by decide +kernel, by simp [PyData.depth, PyData.depthKv]⟩
  · exact C _ ((sz1 sz_set).mono (by decide) (by decide))
  · exact C _ ⟨by decide +kernel, by decide +kernel, by simp [PyData.depth, PyData.depthAll]⟩
  · exact C _ ((sz2 sz_row sz_none).mono (by decide) (by decide))
  · exact (sz1 hs).mono (by omega) (by omega)
  · exact (Szs.cons (sz_set.mono (Nat.le_refl _) (Nat.zero_le e)) (Szs.cons hs (Szs.cons hs (szs_nil 0 e)))).tup.mono (by omega) (by omega)
  · exact (Szs.cons (sz_set.mono (Nat.le_refl _) (Nat.zero_le e)) (Szs.cons hs (szs_nil 0 e))).lst.mono (by omega) (by omega)
  · exact (sz2 sz_row (szl1 hs)).mono (by omega) (by omega)
  · exact (sz2 sz_row (Szs.cons hs (Szs.cons hs (Szs.cons hs (Szs.cons hs (Szs.cons hs (szs_nil 0 e)))))).tup).mono (by omega) (by omega)
  · exact (sz2 sz_set (sz1 hs)).mono (by omega) (by omega)
  · exact (sz2 sz_row hs).mono (by omega) (by omega)
  · exact (sz2 sz_set (sz2 sz_set (sz2 sz_set hs))).mono (by omega) (by omega)
  · exact (sz2 sz_row (sz1 (sz2 sz_row (sz1 (sz2 sz_row (sz1 hs)))))).mono (by omega) (by omega)
  · exact (sz2 sz_atom hs).mono (by omega) (by omega)
/-! ### bent things -/
theorem clns_mem : ∀ {xs : List PyData} {x : PyData}, clns xs = true → x ∈ xs → cln x = true
  | y :: r, x, h, hx => by
    simp only [clns, Bool.and_eq_true] at h
    rcases List.mem_cons.mp hx with rfl | hx
    · exact h.1
    · exact clns_mem h.2 hx
theorem lays_mem : ∀ {xs : List PyData} {x : PyData}, PyData.canLayAll0 xs = true → x ∈ xs → PyData.canLay0 x = true
  | y :: r, x, h, hx => by
    simp only [PyData.canLayAll0, Bool.and_eq_true] at h
    rcases List.mem_cons.mp hx with rfl | hx
    · exact h.1
    · exact lays_mem h.2 hx
theorem deps_mem : ∀ {xs : List PyData} {x : PyData}, x ∈ xs → PyData.depth x ≤ PyData.depthAll xs
  | y :: r, x, hx => by
    simp only [PyData.depthAll]
    rcases List.mem_cons.mp hx with rfl | hx
    · omega
    · have := deps_mem hx; omega
theorem Nice.untup {m : Nat} {xs : List PyData} (h : Nice m (.tuple xs)) : 1 ≤ m ∧ ∀ x ∈ xs, Nice (m - 1) x := by
  obtain ⟨h1, h2, h3⟩ := h
  simp only [cln] at h1
  simp only [PyData.canLay0] at h2
  simp only [PyData.depth] at h3
  exact ⟨by omega, fun x hx => ⟨clns_mem h1 hx, lays_mem h2 hx, by have := deps_mem hx; omega⟩⟩
theorem szs_len {e : Nat} : ∀ {p : Nat} {xs : List PyData}, Szs p e xs → 2 * xs.length ≤ p
  | p, [], _ => by simp
  | p, x :: xs, h => by
    obtain ⟨b, r, l, h3, h4⟩ := szs_cons_iff h
    have := szs_len h4
    rw [List.length_cons]; omega
theorem bent : ∀ (m n : Nat) (d : PyData) (c : Int) (q : Dk) (b e : Nat) (Q : DV → OD → Prop), m + 5 ≤ n → m ≤ 60 → b ≤ 1000000 → Nice m d → Sz b e d → DkOk c q → c + 3 * m + 10 < 1000000000 →
    (∀ r q', Sz (5 * b + 200 + m * (2 * b + 10)) (e + 6) r → DkOk (c + 3 * m + 10) q' → Q (.d r) (some q')) → Wp (callD Pg n 15 [.dk, .d d] (some q)) Q
  | m, 0, _, _, _, _, _, _, h, _, _, _, _, _, _, _ => by omega
  | m, n + 1, d, c, q, b, e, Q, hn, h60, hb, hd, hs, hq, hc, hQ => by
    show Wp (endOf (evSs (CX n) b15 [some .dk, some (.d d), none] (some q))) Q
    obtain ⟨n, rfl⟩ : ∃ k, n = k + 4 := ⟨n - 4, by omega⟩
    have oddc : ∀ c1 q1, DkOk c1 q1 → c1 ≤ c + 1 → Wp (callD Pg (n + 4) 14 [.dk, .d d] (some q1)) Q := fun c1 q1 h1 l1 =>
      odd (n := n + 1) hs h1 (by omega) fun x q' h2 h3 => hQ x q' (h2.mono (by omega) (Nat.le_refl _)) (h3.mono (by omega))
    unfold b15
    cases d with
    | tuple xs =>
      obtain ⟨m1, hx⟩ := hd.untup
      have et : cmpD .Eq (.tuple xs) (.tuple []) = some (PyData.eqv (.tuple xs) (.tuple [])) := eqD hd (⟨rfl, rfl, by simp only [PyData.depth, PyData.depthAll]; omega⟩ : Nice m (.tuple [])) (by omega)
      simp only [bO_some, bO_none, lO_some, lO_none, iB_t, iB_f, thn_nx, thn_rt, thn_bk, thn_ct, endOf_rt, endOf_nx, kLift_a, kOk_a, kO2_a, kIte_t, kIte_f, kIfe_t, kIfe_f, kCall_a, kArgs_a, kArgs2_a, kVals_a, kVals2_a, kOpd_a, kOpd2_a, kDat_a, kDat2_a, kBV_a, kBV2_tt, kBV2_ff, kBV2_tf, kBV2_ft, kBT_tt, kBT_ff, kBT_tf, kBT_ft, kComp_a, kSrc_a, kChain_a, kChain2_a, kChain3_t, kChain3_f, kSet_a, kPar_a, kUnp_a, kFor_a, gV_d, gV_dk, gO_d, gO_o, var_v, var_o, var_t, oV_d, oV_own, tV_d, tV_own, vB_s, oB_s, non_v, non_o, bl_v, bl_o, bl_t, int_v, int_o, str_v, str_o, glb_v, glb_o, tup_v, tup_o, lst_v, lst_o, bin_v, bin_o, bin_t, cmp_t, cmp_v, cmp_o, isN_t, isN_v, isi_t, isi_v, not_t, bop_v, bop_o, bop_t, ife_v, ife_o, idx_v, idx_o, slA_v, slA_o, slB_v, slB_o, call_v, call_o, call_t, callk_v, blt_v, blt_o, comp_v, comp_o, compIf_v, compIf_o, dict0_v, dict1_v, src_eq, rng1_v, zip_v, chain_t, as_nl, as_cs, ds_nl, ds_cs, os_nl, os_cs, vs_nl, vs_cs, es_nl, es_cs, bv_1, bv_2, bt_1, bt_2, s_nil, s_cons, s_set, s_setLc, s_par, s_unp, s_ite, s_loop, s_frz, s_app, rt_non, rt_bl, rt_int, rt_str, rt_glb, rt_tup, rt_lst, rt_bin, rt_cmp, rt_chain, rt_isN, rt_not, rt_bop, rt_ife, rt_idx, rt_slA, rt_slB, rt_call, rt_callk, rt_blt, rt_comp, rt_compIf, rt_isi, gR_s, rt_var, DV.dat, DV.fz, List.getElem?_cons_zero, List.getElem?_cons_succ, List.set_cons_zero, List.set_cons_succ, Option.map_some, Option.map_none, Option.bind_some, Option.bind_none, List.any_cons, List.any_nil, Bool.or_false, Bool.false_or, Bool.or_true, Bool.true_or, Bool.not_true, Bool.not_false, isTy, bltD, blt1, blt2, truthD, intD, setAll, setMany, slAB_v, slAB_o, kSlAB_a, kSlAB0_a, kSlAB1_a, kSlAB2_a, neg_v, neg_o, kNeg_i, notN_t, not_v, s_aug, kAug_a, s_whil, s_brk, s_cont, s_retN, s_popAt, callk_o, kCallk_a, kCallk2_a, dkey_i, dkey_s, kDict_a, kDictU_a, kDict2_d, wp_some, wp_bO, wp_thn, wp_endOf, wp_oV, wp_tV, wp_vB, wp_oB, kW_a, kT_a, kE_a, kOV_a, kTV_a, kVB_a, kOB_a, et]
      cases xs with
      | nil =>
        have e0 : PyData.eqv (.tuple []) (.tuple []) = true := by simp [PyData.eqv, PyData.eqvAll]
        simp only [e0, bO_some, bO_none, lO_some, lO_none, iB_t, iB_f, thn_nx, thn_rt, thn_bk, thn_ct, endOf_rt, endOf_nx, kLift_a, kOk_a, kO2_a, kIte_t, kIte_f, kIfe_t, kIfe_f, kCall_a, kArgs_a, kArgs2_a, kVals_a, kVals2_a, kOpd_a, kOpd2_a, kDat_a, kDat2_a, kBV_a, kBV2_tt, kBV2_ff, kBV2_tf, kBV2_ft, kBT_tt, kBT_ff, kBT_tf, kBT_ft, kComp_a, kSrc_a, kChain_a, kChain2_a, kChain3_t, kChain3_f, kSet_a, kPar_a, kUnp_a, kFor_a, gV_d, gV_dk, gO_d, gO_o, var_v, var_o, var_t, oV_d, oV_own, tV_d, tV_own, vB_s, oB_s, non_v, non_o, bl_v, bl_o, bl_t, int_v, int_o, str_v, str_o, glb_v, glb_o, tup_v, tup_o, lst_v, lst_o, bin_v, bin_o, bin_t, cmp_t, cmp_v, cmp_o, isN_t, isN_v, isi_t, isi_v, not_t, bop_v, bop_o, bop_t, ife_v, ife_o, idx_v, idx_o, slA_v, slA_o, slB_v, slB_o, call_v, call_o, call_t, callk_v, blt_v, blt_o, comp_v, comp_o, compIf_v, compIf_o, dict0_v, dict1_v, src_eq, rng1_v, zip_v, chain_t, as_nl, as_cs, ds_nl, ds_cs, os_nl, os_cs, vs_nl, vs_cs, es_nl, es_cs, bv_1, bv_2, bt_1, bt_2, s_nil, s_cons, s_set, s_setLc, s_par, s_unp, s_ite, s_loop, s_frz, s_app, rt_non, rt_bl, rt_int, rt_str, rt_glb, rt_tup, rt_lst, rt_bin, rt_cmp, rt_chain, rt_isN, rt_not, rt_bop, rt_ife, rt_idx, rt_slA, rt_slB, rt_call, rt_callk, rt_blt, rt_comp, rt_compIf, rt_isi, gR_s, rt_var, DV.dat, DV.fz, List.getElem?_cons_zero, List.getElem?_cons_succ, List.set_cons_zero, List.set_cons_succ, Option.map_some, Option.map_none, Option.bind_some, Option.bind_none, List.any_cons, List.any_nil, Bool.or_false, Bool.false_or, Bool.or_true, Bool.true_or, Bool.not_true, Bool.not_false, isTy, bltD, blt1, blt2, truthD, intD, setAll, setMany, slAB_v, slAB_o, kSlAB_a, kSlAB0_a, kSlAB1_a, kSlAB2_a, neg_v, neg_o, kNeg_i, notN_t, not_v, s_aug, kAug_a, s_whil, s_brk, s_cont, s_retN, s_popAt, callk_o, kCallk_a, kCallk2_a, dkey_i, dkey_s, kDict_a, kDictU_a, kDict2_d, wp_some, wp_bO, wp_thn, wp_endOf, wp_oV, wp_tV, wp_vB, wp_oB, kW_a, kT_a, kE_a, kOV_a, kTV_a, kVB_a, kOB_a]
        refine (oddc c q hq (by omega)).mono fun v k h => ?_
        simp only [bO_some, bO_none, lO_some, lO_none, iB_t, iB_f, thn_nx, thn_rt, thn_bk, thn_ct, endOf_rt, endOf_nx, kLift_a, kOk_a, kO2_a, kIte_t, kIte_f, kIfe_t, kIfe_f, kCall_a, kArgs_a, kArgs2_a, kVals_a, kVals2_a, kOpd_a, kOpd2_a, kDat_a, kDat2_a, kBV_a, kBV2_tt, kBV2_ff, kBV2_tf, kBV2_ft, kBT_tt, kBT_ff, kBT_tf, kBT_ft, kComp_a, kSrc_a, kChain_a, kChain2_a, kChain3_t, kChain3_f, kSet_a, kPar_a, kUnp_a, kFor_a, gV_d, gV_dk, gO_d, gO_o, var_v, var_o, var_t, oV_d, oV_own, tV_d, tV_own, vB_s, oB_s, non_v, non_o, bl_v, bl_o, bl_t, int_v, int_o, str_v, str_o, glb_v, glb_o, tup_v, tup_o, lst_v, lst_o, bin_v, bin_o, bin_t, cmp_t, cmp_v, cmp_o, isN_t, isN_v, isi_t, isi_v, not_t, bop_v, bop_o, bop_t, ife_v, ife_o, idx_v, idx_o, slA_v, slA_o, slB_v, slB_o, call_v, call_o, call_t, callk_v, blt_v, blt_o, comp_v, comp_o, compIf_v, compIf_o, dict0_v, dict1_v, src_eq, rng1_v, zip_v, chain_t, as_nl, as_cs, ds_nl, ds_cs, os_nl, os_cs, vs_nl, vs_cs, es_nl, es_cs, bv_1, bv_2, bt_1, bt_2, s_nil, s_cons, s_set, s_setLc, s_par, s_unp, s_ite, s_loop, s_frz, s_app, rt_non, rt_bl, rt_int, rt_str, rt_glb, rt_tup, rt_lst, rt_bin, rt_cmp, rt_chain, rt_isN, rt_not, rt_bop, rt_ife, rt_idx, rt_slA, rt_slB, rt_call, rt_callk, rt_blt, rt_comp, rt_compIf, rt_isi, gR_s, rt_var, DV.dat, DV.fz, List.getElem?_cons_zero, List.getElem?_cons_succ, List.set_cons_zero, List.set_cons_succ, Option.map_some, Option.map_none, Option.bind_some, Option.bind_none, List.any_cons, List.any_nil, Bool.or_false, Bool.false_or, Bool.or_true, Bool.true_or, Bool.not_true, Bool.not_false, isTy, bltD, blt1, blt2, truthD, intD, setAll, setMany, slAB_v, slAB_o, kSlAB_a, kSlAB0_a, kSlAB1_a, kSlAB2_a, neg_v, neg_o, kNeg_i, notN_t, not_v, s_aug, kAug_a, s_whil, s_brk, s_cont, s_retN, s_popAt, callk_o, kCallk_a, kCallk2_a, dkey_i, dkey_s, kDict_a, kDictU_a, kDict2_d, wp_some, wp_bO, wp_thn, wp_endOf, wp_oV, wp_tV, wp_vB, wp_oB, kW_a, kT_a, kE_a, kOV_a, kTV_a, kVB_a, kOB_a]
        exact h
      | cons x0 xs0 =>
        have e0 : PyData.eqv (.tuple (x0 :: xs0)) (.tuple []) = false := by simp [PyData.eqv, PyData.eqvAll]
        have l0 : 0 < (x0 :: xs0).length := by simp
        obtain ⟨s1, s2⟩ := szUntup hs
        generalize x0 :: xs0 = xs at *
        simp only [e0, bO_some, bO_none, lO_some, lO_none, iB_t, iB_f, thn_nx, thn_rt, thn_bk, thn_ct, endOf_rt, endOf_nx, kLift_a, kOk_a, kO2_a, kIte_t, kIte_f, kIfe_t, kIfe_f, kCall_a, kArgs_a, kArgs2_a, kVals_a, kVals2_a, kOpd_a, kOpd2_a, kDat_a, kDat2_a, kBV_a, kBV2_tt, kBV2_ff, kBV2_tf, kBV2_ft, kBT_tt, kBT_ff, kBT_tf, kBT_ft, kComp_a, kSrc_a, kChain_a, kChain2_a, kChain3_t, kChain3_f, kSet_a, kPar_a, kUnp_a, kFor_a, gV_d, gV_dk, gO_d, gO_o, var_v, var_o, var_t, oV_d, oV_own, tV_d, tV_own, vB_s, oB_s, non_v, non_o, bl_v, bl_o, bl_t, int_v, int_o, str_v, str_o, glb_v, glb_o, tup_v, tup_o, lst_v, lst_o, bin_v, bin_o, bin_t, cmp_t, cmp_v, cmp_o, isN_t, isN_v, isi_t, isi_v, not_t, bop_v, bop_o, bop_t, ife_v, ife_o, idx_v, idx_o, slA_v, slA_o, slB_v, slB_o, call_v, call_o, call_t, callk_v, blt_v, blt_o, comp_v, comp_o, compIf_v, compIf_o, dict0_v, dict1_v, src_eq, rng1_v, zip_v, chain_t, as_nl, as_cs, ds_nl, ds_cs, os_nl, os_cs, vs_nl, vs_cs, es_nl, es_cs, bv_1, bv_2, bt_1, bt_2, s_nil, s_cons, s_set, s_setLc, s_par, s_unp, s_ite, s_loop, s_frz, s_app, rt_non, rt_bl, rt_int, rt_str, rt_glb, rt_tup, rt_lst, rt_bin, rt_cmp, rt_chain, rt_isN, rt_not, rt_bop, rt_ife, rt_idx, rt_slA, rt_slB, rt_call, rt_callk, rt_blt, rt_comp, rt_compIf, rt_isi, gR_s, rt_var, DV.dat, DV.fz, List.getElem?_cons_zero, List.getElem?_cons_succ, List.set_cons_zero, List.set_cons_succ, Option.map_some, Option.map_none, Option.bind_some, Option.bind_none, List.any_cons, List.any_nil, Bool.or_false, Bool.false_or, Bool.or_true, Bool.true_or, Bool.not_true, Bool.not_false, isTy, bltD, blt1, blt2, truthD, intD, setAll, setMany, slAB_v, slAB_o, kSlAB_a, kSlAB0_a, kSlAB1_a, kSlAB2_a, neg_v, neg_o, kNeg_i, notN_t, not_v, s_aug, kAug_a, s_whil, s_brk, s_cont, s_retN, s_popAt, callk_o, kCallk_a, kCallk2_a, dkey_i, dkey_s, kDict_a, kDictU_a, kDict2_d, wp_some, wp_bO, wp_thn, wp_endOf, wp_oV, wp_tV, wp_vB, wp_oB, kW_a, kT_a, kE_a, kOV_a, kTV_a, kVB_a, kOB_a]
        refine wdraw (m := 4) (by decide) (by decide) hq (by omega) fun w q1 w1 w2 => ?_
        simp only [bO_some, bO_none, lO_some, lO_none, iB_t, iB_f, thn_nx, thn_rt, thn_bk, thn_ct, endOf_rt, endOf_nx, kLift_a, kOk_a, kO2_a, kIte_t, kIte_f, kIfe_t, kIfe_f, kCall_a, kArgs_a, kArgs2_a, kVals_a, kVals2_a, kOpd_a, kOpd2_a, kDat_a, kDat2_a, kBV_a, kBV2_tt, kBV2_ff, kBV2_tf, kBV2_ft, kBT_tt, kBT_ff, kBT_tf, kBT_ft, kComp_a, kSrc_a, kChain_a, kChain2_a, kChain3_t, kChain3_f, kSet_a, kPar_a, kUnp_a, kFor_a, gV_d, gV_dk, gO_d, gO_o, var_v, var_o, var_t, oV_d, oV_own, tV_d, tV_own, vB_s, oB_s, non_v, non_o, bl_v, bl_o, bl_t, int_v, int_o, str_v, str_o, glb_v, glb_o, tup_v, tup_o, lst_v, lst_o, bin_v, bin_o, bin_t, cmp_t, cmp_v, cmp_o, isN_t, isN_v, isi_t, isi_v, not_t, bop_v, bop_o, bop_t, ife_v, ife_o, idx_v, idx_o, slA_v, slA_o, slB_v, slB_o, call_v, call_o, call_t, callk_v, blt_v, blt_o, comp_v, comp_o, compIf_v, compIf_o, dict0_v, dict1_v, src_eq, rng1_v, zip_v, chain_t, as_nl, as_cs, ds_nl, ds_cs, os_nl, os_cs, vs_nl, vs_cs, es_nl, es_cs, bv_1, bv_2, bt_1, bt_2, s_nil, s_cons, s_set, s_setLc, s_par, s_unp, s_ite, s_loop, s_frz, s_app, rt_non, rt_bl, rt_int, rt_str, rt_glb, rt_tup, rt_lst, rt_bin, rt_cmp, rt_chain, rt_isN, rt_not, rt_bop, rt_ife, rt_idx, rt_slA, rt_slB, rt_call, rt_callk, rt_blt, rt_comp, rt_compIf, rt_isi, gR_s, rt_var, DV.dat, DV.fz, List.getElem?_cons_zero, List.getElem?_cons_succ, List.set_cons_zero, List.set_cons_succ, Option.map_some, Option.map_none, Option.bind_some, Option.bind_none, List.any_cons, List.any_nil, Bool.or_false, Bool.false_or, Bool.or_true, Bool.true_or, Bool.not_true, Bool.not_false, isTy, bltD, blt1, blt2, truthD, intD, setAll, setMany, slAB_v, slAB_o, kSlAB_a, kSlAB0_a, kSlAB1_a, kSlAB2_a, neg_v, neg_o, kNeg_i, notN_t, not_v, s_aug, kAug_a, s_whil, s_brk, s_cont, s_retN, s_popAt, callk_o, kCallk_a, kCallk2_a, dkey_i, dkey_s, kDict_a, kDictU_a, kDict2_d, wp_some, wp_bO, wp_thn, wp_endOf, wp_oV, wp_tV, wp_vB, wp_oB, kW_a, kT_a, kE_a, kOV_a, kTV_a, kVB_a, kOB_a, eq0N]
        by_cases hw : w = 0
        · simp only [hw, decide_true, bO_some, bO_none, lO_some, lO_none, iB_t, iB_f, thn_nx, thn_rt, thn_bk, thn_ct, endOf_rt, endOf_nx, kLift_a, kOk_a, kO2_a, kIte_t, kIte_f, kIfe_t, kIfe_f, kCall_a, kArgs_a, kArgs2_a, kVals_a, kVals2_a, kOpd_a, kOpd2_a, kDat_a, kDat2_a, kBV_a, kBV2_tt, kBV2_ff, kBV2_tf, kBV2_ft, kBT_tt, kBT_ff, kBT_tf, kBT_ft, kComp_a, kSrc_a, kChain_a, kChain2_a, kChain3_t, kChain3_f, kSet_a, kPar_a, kUnp_a, kFor_a, gV_d, gV_dk, gO_d, gO_o, var_v, var_o, var_t, oV_d, oV_own, tV_d, tV_own, vB_s, oB_s, non_v, non_o, bl_v, bl_o, bl_t, int_v, int_o, str_v, str_o, glb_v, glb_o, tup_v, tup_o, lst_v, lst_o, bin_v, bin_o, bin_t, cmp_t, cmp_v, cmp_o, isN_t, isN_v, isi_t, isi_v, not_t, bop_v, bop_o, bop_t, ife_v, ife_o, idx_v, idx_o, slA_v, slA_o, slB_v, slB_o, call_v, call_o, call_t, callk_v, blt_v, blt_o, comp_v, comp_o, compIf_v, compIf_o, dict0_v, dict1_v, src_eq, rng1_v, zip_v, chain_t, as_nl, as_cs, ds_nl, ds_cs, os_nl, os_cs, vs_nl, vs_cs, es_nl, es_cs, bv_1, bv_2, bt_1, bt_2, s_nil, s_cons, s_set, s_setLc, s_par, s_unp, s_ite, s_loop, s_frz, s_app, rt_non, rt_bl, rt_int, rt_str, rt_glb, rt_tup, rt_lst, rt_bin, rt_cmp, rt_chain, rt_isN, rt_not, rt_bop, rt_ife, rt_idx, rt_slA, rt_slB, rt_call, rt_callk, rt_blt, rt_comp, rt_compIf, rt_isi, gR_s, rt_var, DV.dat, DV.fz, List.getElem?_cons_zero, List.getElem?_cons_succ, List.set_cons_zero, List.set_cons_succ, Option.map_some, Option.map_none, Option.bind_some, Option.bind_none, List.any_cons, List.any_nil, Bool.or_false, Bool.false_or, Bool.or_true, Bool.true_or, Bool.not_true, Bool.not_false, isTy, bltD, blt1, blt2, truthD, intD, setAll, setMany, slAB_v, slAB_o, kSlAB_a, kSlAB0_a, kSlAB1_a, kSlAB2_a, neg_v, neg_o, kNeg_i, notN_t, not_v, s_aug, kAug_a, s_whil, s_brk, s_cont, s_retN, s_popAt, callk_o, kCallk_a, kCallk2_a, dkey_i, dkey_s, kDict_a, kDictU_a, kDict2_d, wp_some, wp_bO, wp_thn, wp_endOf, wp_oV, wp_tV, wp_vB, wp_oB, kW_a, kT_a, kE_a, kOV_a, kTV_a, kVB_a, kOB_a]
          refine (oddc (c + 1) q1 w2 (by omega)).mono fun v k h => ?_
          simp only [bO_some, bO_none, lO_some, lO_none, iB_t, iB_f, thn_nx, thn_rt, thn_bk, thn_ct, endOf_rt, endOf_nx, kLift_a, kOk_a, kO2_a, kIte_t, kIte_f, kIfe_t, kIfe_f, kCall_a, kArgs_a, kArgs2_a, kVals_a, kVals2_a, kOpd_a, kOpd2_a, kDat_a, kDat2_a, kBV_a, kBV2_tt, kBV2_ff, kBV2_tf, kBV2_ft, kBT_tt, kBT_ff, kBT_tf, kBT_ft, kComp_a, kSrc_a, kChain_a, kChain2_a, kChain3_t, kChain3_f, kSet_a, kPar_a, kUnp_a, kFor_a, gV_d, gV_dk, gO_d, gO_o, var_v, var_o, var_t, oV_d, oV_own, tV_d, tV_own, vB_s, oB_s, non_v, non_o, bl_v, bl_o, bl_t, int_v, int_o, str_v, str_o, glb_v, glb_o, tup_v, tup_o, lst_v, lst_o, bin_v, bin_o, bin_t, cmp_t, cmp_v, cmp_o, isN_t, isN_v, isi_t, isi_v, not_t, bop_v, bop_o, bop_t, ife_v, ife_o, idx_v, idx_o, slA_v, slA_o, slB_v, slB_o, call_v, call_o, call_t, callk_v, blt_v, blt_o, comp_v, comp_o, compIf_v, compIf_o, dict0_v, dict1_v, src_eq, rng1_v, zip_v, chain_t, as_nl, as_cs, ds_nl, ds_cs, os_nl, os_cs, vs_nl, vs_cs, es_nl, es_cs, bv_1, bv_2, bt_1, bt_2, s_nil, s_cons, s_set, s_setLc, s_par, s_unp, s_ite, s_loop, s_frz, s_app, rt_non, rt_bl, rt_int, rt_str, rt_glb, rt_tup, rt_lst, rt_bin, rt_cmp, rt_chain, rt_isN, rt_not, rt_bop, rt_ife, rt_idx, rt_slA, rt_slB, rt_call, rt_callk, rt_blt, rt_comp, rt_compIf, rt_isi, gR_s, rt_var, DV.dat, DV.fz, List.getElem?_cons_zero, List.getElem?_cons_succ, List.set_cons_zero, List.set_cons_succ, Option.map_some, Option.map_none, Option.bind_some, Option.bind_none, List.any_cons, List.any_nil, Bool.or_false, Bool.false_or, Bool.or_true, Bool.true_or, Bool.not_true, Bool.not_false, isTy, bltD, blt1, blt2, truthD, intD, setAll, setMany, slAB_v, slAB_o, kSlAB_a, kSlAB0_a, kSlAB1_a, kSlAB2_a, neg_v, neg_o, kNeg_i, notN_t, not_v, s_aug, kAug_a, s_whil, s_brk, s_cont, s_retN, s_popAt, callk_o, kCallk_a, kCallk2_a, dkey_i, dkey_s, kDict_a, kDictU_a, kDict2_d, wp_some, wp_bO, wp_thn, wp_endOf, wp_oV, wp_tV, wp_vB, wp_oB, kW_a, kT_a, kE_a, kOV_a, kTV_a, kVB_a, kOB_a]
          exact h
        · simp only [hw, decide_false, bO_some, bO_none, lO_some, lO_none, iB_t, iB_f, thn_nx, thn_rt, thn_bk, thn_ct, endOf_rt, endOf_nx, kLift_a, kOk_a, kO2_a, kIte_t, kIte_f, kIfe_t, kIfe_f, kCall_a, kArgs_a, kArgs2_a, kVals_a, kVals2_a, kOpd_a, kOpd2_a, kDat_a, kDat2_a, kBV_a, kBV2_tt, kBV2_ff, kBV2_tf, kBV2_ft, kBT_tt, kBT_ff, kBT_tf, kBT_ft, kComp_a, kSrc_a, kChain_a, kChain2_a, kChain3_t, kChain3_f, kSet_a, kPar_a, kUnp_a, kFor_a, gV_d, gV_dk, gO_d, gO_o, var_v, var_o, var_t, oV_d, oV_own, tV_d, tV_own, vB_s, oB_s, non_v, non_o, bl_v, bl_o, bl_t, int_v, int_o, str_v, str_o, glb_v, glb_o, tup_v, tup_o, lst_v, lst_o, bin_v, bin_o, bin_t, cmp_t, cmp_v, cmp_o, isN_t, isN_v, isi_t, isi_v, not_t, bop_v, bop_o, bop_t, ife_v, ife_o, idx_v, idx_o, slA_v, slA_o, slB_v, slB_o, call_v, call_o, call_t, callk_v, blt_v, blt_o, comp_v, comp_o, compIf_v, compIf_o, dict0_v, dict1_v, src_eq, rng1_v, zip_v, chain_t, as_nl, as_cs, ds_nl, ds_cs, os_nl, os_cs, vs_nl, vs_cs, es_nl, es_cs, bv_1, bv_2, bt_1, bt_2, s_nil, s_cons, s_set, s_setLc, s_par, s_unp, s_ite, s_loop, s_frz, s_app, rt_non, rt_bl, rt_int, rt_str, rt_glb, rt_tup, rt_lst, rt_bin, rt_cmp, rt_chain, rt_isN, rt_not, rt_bop, rt_ife, rt_idx, rt_slA, rt_slB, rt_call, rt_callk, rt_blt, rt_comp, rt_compIf, rt_isi, gR_s, rt_var, DV.dat, DV.fz, List.getElem?_cons_zero, List.getElem?_cons_succ, List.set_cons_zero, List.set_cons_succ, Option.map_some, Option.map_none, Option.bind_some, Option.bind_none, List.any_cons, List.any_nil, Bool.or_false, Bool.false_or, Bool.or_true, Bool.true_or, Bool.not_true, Bool.not_false, isTy, bltD, blt1, blt2, truthD, intD, setAll, setMany, slAB_v, slAB_o, kSlAB_a, kSlAB0_a, kSlAB1_a, kSlAB2_a, neg_v, neg_o, kNeg_i, notN_t, not_v, s_aug, kAug_a, s_whil, s_brk, s_cont, s_retN, s_popAt, callk_o, kCallk_a, kCallk2_a, dkey_i, dkey_s, kDict_a, kDictU_a, kDict2_d, wp_some, wp_bO, wp_thn, wp_endOf, wp_oV, wp_tV, wp_vB, wp_oB, kW_a, kT_a, kE_a, kOV_a, kTV_a, kVB_a, kOB_a, lenB, lenD]
          have lx : xs.length ≤ 500000 := by have := szs_len s2; omega
          refine wdraw l0 (by omega) w2 (by omega) fun at' q2 u1 u2 => ?_
          simp only [bO_some, bO_none, lO_some, lO_none, iB_t, iB_f, thn_nx, thn_rt, thn_bk, thn_ct, endOf_rt, endOf_nx, kLift_a, kOk_a, kO2_a, kIte_t, kIte_f, kIfe_t, kIfe_f, kCall_a, kArgs_a, kArgs2_a, kVals_a, kVals2_a, kOpd_a, kOpd2_a, kDat_a, kDat2_a, kBV_a, kBV2_tt, kBV2_ff, kBV2_tf, kBV2_ft, kBT_tt, kBT_ff, kBT_tf, kBT_ft, kComp_a, kSrc_a, kChain_a, kChain2_a, kChain3_t, kChain3_f, kSet_a, kPar_a, kUnp_a, kFor_a, gV_d, gV_dk, gO_d, gO_o, var_v, var_o, var_t, oV_d, oV_own, tV_d, tV_own, vB_s, oB_s, non_v, non_o, bl_v, bl_o, bl_t, int_v, int_o, str_v, str_o, glb_v, glb_o, tup_v, tup_o, lst_v, lst_o, bin_v, bin_o, bin_t, cmp_t, cmp_v, cmp_o, isN_t, isN_v, isi_t, isi_v, not_t, bop_v, bop_o, bop_t, ife_v, ife_o, idx_v, idx_o, slA_v, slA_o, slB_v, slB_o, call_v, call_o, call_t, callk_v, blt_v, blt_o, comp_v, comp_o, compIf_v, compIf_o, dict0_v, dict1_v, src_eq, rng1_v, zip_v, chain_t, as_nl, as_cs, ds_nl, ds_cs, os_nl, os_cs, vs_nl, vs_cs, es_nl, es_cs, bv_1, bv_2, bt_1, bt_2, s_nil, s_cons, s_set, s_setLc, s_par, s_unp, s_ite, s_loop, s_frz, s_app, rt_non, rt_bl, rt_int, rt_str, rt_glb, rt_tup, rt_lst, rt_bin, rt_cmp, rt_chain, rt_isN, rt_not, rt_bop, rt_ife, rt_idx, rt_slA, rt_slB, rt_call, rt_callk, rt_blt, rt_comp, rt_compIf, rt_isi, gR_s, rt_var, DV.dat, DV.fz, List.getElem?_cons_zero, List.getElem?_cons_succ, List.set_cons_zero, List.set_cons_succ, Option.map_some, Option.map_none, Option.bind_some, Option.bind_none, List.any_cons, List.any_nil, Bool.or_false, Bool.false_or, Bool.or_true, Bool.true_or, Bool.not_true, Bool.not_false, isTy, bltD, blt1, blt2, truthD, intD, setAll, setMany, slAB_v, slAB_o, kSlAB_a, kSlAB0_a, kSlAB1_a, kSlAB2_a, neg_v, neg_o, kNeg_i, notN_t, not_v, s_aug, kAug_a, s_whil, s_brk, s_cont, s_retN, s_popAt, callk_o, kCallk_a, kCallk2_a, dkey_i, dkey_s, kDict_a, kDictU_a, kDict2_d, wp_some, wp_bO, wp_thn, wp_endOf, wp_oV, wp_tV, wp_vB, wp_oB, kW_a, kT_a, kE_a, kOV_a, kTV_a, kVB_a, kOB_a]
          refine wdraw (m := 6) (by decide) (by decide) u2 (by omega) fun z q3 z1 z2 => ?_
          simp only [bO_some, bO_none, lO_some, lO_none, iB_t, iB_f, thn_nx, thn_rt, thn_bk, thn_ct, endOf_rt, endOf_nx, kLift_a, kOk_a, kO2_a, kIte_t, kIte_f, kIfe_t, kIfe_f, kCall_a, kArgs_a, kArgs2_a, kVals_a, kVals2_a, kOpd_a, kOpd2_a, kDat_a, kDat2_a, kBV_a, kBV2_tt, kBV2_ff, kBV2_tf, kBV2_ft, kBT_tt, kBT_ff, kBT_tf, kBT_ft, kComp_a, kSrc_a, kChain_a, kChain2_a, kChain3_t, kChain3_f, kSet_a, kPar_a, kUnp_a, kFor_a, gV_d, gV_dk, gO_d, gO_o, var_v, var_o, var_t, oV_d, oV_own, tV_d, tV_own, vB_s, oB_s, non_v, non_o, bl_v, bl_o, bl_t, int_v, int_o, str_v, str_o, glb_v, glb_o, tup_v, tup_o, lst_v, lst_o, bin_v, bin_o, bin_t, cmp_t, cmp_v, cmp_o, isN_t, isN_v, isi_t, isi_v, not_t, bop_v, bop_o, bop_t, ife_v, ife_o, idx_v, idx_o, slA_v, slA_o, slB_v, slB_o, call_v, call_o, call_t, callk_v, blt_v, blt_o, comp_v, comp_o, compIf_v, compIf_o, dict0_v, dict1_v, src_eq, rng1_v, zip_v, chain_t, as_nl, as_cs, ds_nl, ds_cs, os_nl, os_cs, vs_nl, vs_cs, es_nl, es_cs, bv_1, bv_2, bt_1, bt_2, s_nil, s_cons, s_set, s_setLc, s_par, s_unp, s_ite, s_loop, s_frz, s_app, rt_non, rt_bl, rt_int, rt_str, rt_glb, rt_tup, rt_lst, rt_bin, rt_cmp, rt_chain, rt_isN, rt_not, rt_bop, rt_ife, rt_idx, rt_slA, rt_slB, rt_call, rt_callk, rt_blt, rt_comp, rt_compIf, rt_isi, gR_s, rt_var, DV.dat, DV.fz, List.getElem?_cons_zero, List.getElem?_cons_succ, List.set_cons_zero, List.set_cons_succ, Option.map_some, Option.map_none, Option.bind_some, Option.bind_none, List.any_cons, List.any_nil, Bool.or_false, Bool.false_or, Bool.or_true, Bool.true_or, Bool.not_true, Bool.not_false, isTy, bltD, blt1, blt2, truthD, intD, setAll, setMany, slAB_v, slAB_o, kSlAB_a, kSlAB0_a, kSlAB1_a, kSlAB2_a, neg_v, neg_o, kNeg_i, notN_t, not_v, s_aug, kAug_a, s_whil, s_brk, s_cont, s_retN, s_popAt, callk_o, kCallk_a, kCallk2_a, dkey_i, dkey_s, kDict_a, kDictU_a, kDict2_d, wp_some, wp_bO, wp_thn, wp_endOf, wp_oV, wp_tV, wp_vB, wp_oB, kW_a, kT_a, kE_a, kOV_a, kTV_a, kVB_a, kOB_a, eq0N]
          have lx : xs.length ≤ 500000 := by have := szs_len s2; omega
          by_cases hz : z = 0
          · have la : (xs.take at').length + (xs.drop (at' + 1)).length ≤ 10000000 := by rw [List.length_take, List.length_drop]; omega
            simp only [hz, decide_true, bO_some, bO_none, lO_some, lO_none, iB_t, iB_f, thn_nx, thn_rt, thn_bk, thn_ct, endOf_rt, endOf_nx, kLift_a, kOk_a, kO2_a, kIte_t, kIte_f, kIfe_t, kIfe_f, kCall_a, kArgs_a, kArgs2_a, kVals_a, kVals2_a, kOpd_a, kOpd2_a, kDat_a, kDat2_a, kBV_a, kBV2_tt, kBV2_ff, kBV2_tf, kBV2_ft, kBT_tt, kBT_ff, kBT_tf, kBT_ft, kComp_a, kSrc_a, kChain_a, kChain2_a, kChain3_t, kChain3_f, kSet_a, kPar_a, kUnp_a, kFor_a, gV_d, gV_dk, gO_d, gO_o, var_v, var_o, var_t, oV_d, oV_own, tV_d, tV_own, vB_s, oB_s, non_v, non_o, bl_v, bl_o, bl_t, int_v, int_o, str_v, str_o, glb_v, glb_o, tup_v, tup_o, lst_v, lst_o, bin_v, bin_o, bin_t, cmp_t, cmp_v, cmp_o, isN_t, isN_v, isi_t, isi_v, not_t, bop_v, bop_o, bop_t, ife_v, ife_o, idx_v, idx_o, slA_v, slA_o, slB_v, slB_o, call_v, call_o, call_t, callk_v, blt_v, blt_o, comp_v, comp_o, compIf_v, compIf_o, dict0_v, dict1_v, src_eq, rng1_v, zip_v, chain_t, as_nl, as_cs, ds_nl, ds_cs, os_nl, os_cs, vs_nl, vs_cs, es_nl, es_cs, bv_1, bv_2, bt_1, bt_2, s_nil, s_cons, s_set, s_setLc, s_par, s_unp, s_ite, s_loop, s_frz, s_app, rt_non, rt_bl, rt_int, rt_str, rt_glb, rt_tup, rt_lst, rt_bin, rt_cmp, rt_chain, rt_isN, rt_not, rt_bop, rt_ife, rt_idx, rt_slA, rt_slB, rt_call, rt_callk, rt_blt, rt_comp, rt_compIf, rt_isi, gR_s, rt_var, DV.dat, DV.fz, List.getElem?_cons_zero, List.getElem?_cons_succ, List.set_cons_zero, List.set_cons_succ, Option.map_some, Option.map_none, Option.bind_some, Option.bind_none, List.any_cons, List.any_nil, Bool.or_false, Bool.false_or, Bool.or_true, Bool.true_or, Bool.not_true, Bool.not_false, isTy, bltD, blt1, blt2, truthD, intD, setAll, setMany, slAB_v, slAB_o, kSlAB_a, kSlAB0_a, kSlAB1_a, kSlAB2_a, neg_v, neg_o, kNeg_i, notN_t, not_v, s_aug, kAug_a, s_whil, s_brk, s_cont, s_retN, s_popAt, callk_o, kCallk_a, kCallk2_a, dkey_i, dkey_s, kDict_a, kDictU_a, kDict2_d, wp_some, wp_bO, wp_thn, wp_endOf, wp_oV, wp_tV, wp_vB, wp_oB, kW_a, kT_a, kE_a, kOV_a, kTV_a, kVB_a, kOB_a, slBn, addN1, slAn, tupAdd la]
            exact hQ _ q3 ((((s2.take at').append (s2.drop (at' + 1))).tup).mono (by omega) (by omega)) (z2.mono (by omega))
          · have ix : idxV (.tuple xs) (.int at') = some (.d xs[at']) := by
              simp only [idxV, idxD, atI_nat u1, Option.map_some]
            simp only [hz, decide_false, bO_some, bO_none, lO_some, lO_none, iB_t, iB_f, thn_nx, thn_rt, thn_bk, thn_ct, endOf_rt, endOf_nx, kLift_a, kOk_a, kO2_a, kIte_t, kIte_f, kIfe_t, kIfe_f, kCall_a, kArgs_a, kArgs2_a, kVals_a, kVals2_a, kOpd_a, kOpd2_a, kDat_a, kDat2_a, kBV_a, kBV2_tt, kBV2_ff, kBV2_tf, kBV2_ft, kBT_tt, kBT_ff, kBT_tf, kBT_ft, kComp_a, kSrc_a, kChain_a, kChain2_a, kChain3_t, kChain3_f, kSet_a, kPar_a, kUnp_a, kFor_a, gV_d, gV_dk, gO_d, gO_o, var_v, var_o, var_t, oV_d, oV_own, tV_d, tV_own, vB_s, oB_s, non_v, non_o, bl_v, bl_o, bl_t, int_v, int_o, str_v, str_o, glb_v, glb_o, tup_v, tup_o, lst_v, lst_o, bin_v, bin_o, bin_t, cmp_t, cmp_v, cmp_o, isN_t, isN_v, isi_t, isi_v, not_t, bop_v, bop_o, bop_t, ife_v, ife_o, idx_v, idx_o, slA_v, slA_o, slB_v, slB_o, call_v, call_o, call_t, callk_v, blt_v, blt_o, comp_v, comp_o, compIf_v, compIf_o, dict0_v, dict1_v, src_eq, rng1_v, zip_v, chain_t, as_nl, as_cs, ds_nl, ds_cs, os_nl, os_cs, vs_nl, vs_cs, es_nl, es_cs, bv_1, bv_2, bt_1, bt_2, s_nil, s_cons, s_set, s_setLc, s_par, s_unp, s_ite, s_loop, s_frz, s_app, rt_non, rt_bl, rt_int, rt_str, rt_glb, rt_tup, rt_lst, rt_bin, rt_cmp, rt_chain, rt_isN, rt_not, rt_bop, rt_ife, rt_idx, rt_slA, rt_slB, rt_call, rt_callk, rt_blt, rt_comp, rt_compIf, rt_isi, gR_s, rt_var, DV.dat, DV.fz, List.getElem?_cons_zero, List.getElem?_cons_succ, List.set_cons_zero, List.set_cons_succ, Option.map_some, Option.map_none, Option.bind_some, Option.bind_none, List.any_cons, List.any_nil, Bool.or_false, Bool.false_or, Bool.or_true, Bool.true_or, Bool.not_true, Bool.not_false, isTy, bltD, blt1, blt2, truthD, intD, setAll, setMany, slAB_v, slAB_o, kSlAB_a, kSlAB0_a, kSlAB1_a, kSlAB2_a, neg_v, neg_o, kNeg_i, notN_t, not_v, s_aug, kAug_a, s_whil, s_brk, s_cont, s_retN, s_popAt, callk_o, kCallk_a, kCallk2_a, dkey_i, dkey_s, kDict_a, kDictU_a, kDict2_d, wp_some, wp_bO, wp_thn, wp_endOf, wp_oV, wp_tV, wp_vB, wp_oB, kW_a, kT_a, kE_a, kOV_a, kTV_a, kVB_a, kOB_a, slBn, ix]
            refine bent (m - 1) (n + 4) xs[at'] (c + 3) q3 b (e - 1) _ (by omega) (by omega) hb (hx _ (List.getElem_mem u1)) (s2.mem (List.getElem_mem u1)) (z2.mono (by omega)) (by omega) fun r q' h2 h3 => ?_
            have la : (xs.take at').length + [r].length ≤ 10000000 := by rw [List.length_take]; simp; omega
            have lb : (xs.take at' ++ [r]).length + (xs.drop (at' + 1)).length ≤ 10000000 := by rw [List.length_append, List.length_take, List.length_drop]; simp; omega
            simp only [bO_some, bO_none, lO_some, lO_none, iB_t, iB_f, thn_nx, thn_rt, thn_bk, thn_ct, endOf_rt, endOf_nx, kLift_a, kOk_a, kO2_a, kIte_t, kIte_f, kIfe_t, kIfe_f, kCall_a, kArgs_a, kArgs2_a, kVals_a, kVals2_a, kOpd_a, kOpd2_a, kDat_a, kDat2_a, kBV_a, kBV2_tt, kBV2_ff, kBV2_tf, kBV2_ft, kBT_tt, kBT_ff, kBT_tf, kBT_ft, kComp_a, kSrc_a, kChain_a, kChain2_a, kChain3_t, kChain3_f, kSet_a, kPar_a, kUnp_a, kFor_a, gV_d, gV_dk, gO_d, gO_o, var_v, var_o, var_t, oV_d, oV_own, tV_d, tV_own, vB_s, oB_s, non_v, non_o, bl_v, bl_o, bl_t, int_v, int_o, str_v, str_o, glb_v, glb_o, tup_v, tup_o, lst_v, lst_o, bin_v, bin_o, bin_t, cmp_t, cmp_v, cmp_o, isN_t, isN_v, isi_t, isi_v, not_t, bop_v, bop_o, bop_t, ife_v, ife_o, idx_v, idx_o, slA_v, slA_o, slB_v, slB_o, call_v, call_o, call_t, callk_v, blt_v, blt_o, comp_v, comp_o, compIf_v, compIf_o, dict0_v, dict1_v, src_eq, rng1_v, zip_v, chain_t, as_nl, as_cs, ds_nl, ds_cs, os_nl, os_cs, vs_nl, vs_cs, es_nl, es_cs, bv_1, bv_2, bt_1, bt_2, s_nil, s_cons, s_set, s_setLc, s_par, s_unp, s_ite, s_loop, s_frz, s_app, rt_non, rt_bl, rt_int, rt_str, rt_glb, rt_tup, rt_lst, rt_bin, rt_cmp, rt_chain, rt_isN, rt_not, rt_bop, rt_ife, rt_idx, rt_slA, rt_slB, rt_call, rt_callk, rt_blt, rt_comp, rt_compIf, rt_isi, gR_s, rt_var, DV.dat, DV.fz, List.getElem?_cons_zero, List.getElem?_cons_succ, List.set_cons_zero, List.set_cons_succ, Option.map_some, Option.map_none, Option.bind_some, Option.bind_none, List.any_cons, List.any_nil, Bool.or_false, Bool.false_or, Bool.or_true, Bool.true_or, Bool.not_true, Bool.not_false, isTy, bltD, blt1, blt2, truthD, intD, setAll, setMany, slAB_v, slAB_o, kSlAB_a, kSlAB0_a, kSlAB1_a, kSlAB2_a, neg_v, neg_o, kNeg_i, notN_t, not_v, s_aug, kAug_a, s_whil, s_brk, s_cont, s_retN, s_popAt, callk_o, kCallk_a, kCallk2_a, dkey_i, dkey_s, kDict_a, kDictU_a, kDict2_d, wp_some, wp_bO, wp_thn, wp_endOf, wp_oV, wp_tV, wp_vB, wp_oB, kW_a, kT_a, kE_a, kOV_a, kTV_a, kVB_a, kOB_a, tupAdd la, addN1, slAn, tupAdd lb]
            have k1 : Szs b (e - 1 + 6) xs := s2.mono (Nat.le_refl _) (by omega)
            have em : m * (2 * b + 10) = (m - 1) * (2 * b + 10) + (2 * b + 10) := by
              obtain ⟨m', rfl⟩ : ∃ k, m = k + 1 := ⟨m - 1, by omega⟩
              rw [Nat.add_mul]; simp
            refine hQ _ q' (((((k1.take at').append (Szs.cons h2 (szs_nil 0 _))).append (k1.drop (at' + 1))).tup).mono (by omega) (by omega)) (h3.mono (by omega))
    | _ =>
      simp only [bO_some, bO_none, lO_some, lO_none, iB_t, iB_f, thn_nx, thn_rt, thn_bk, thn_ct, endOf_rt, endOf_nx, kLift_a, kOk_a, kO2_a, kIte_t, kIte_f, kIfe_t, kIfe_f, kCall_a, kArgs_a, kArgs2_a, kVals_a, kVals2_a, kOpd_a, kOpd2_a, kDat_a, kDat2_a, kBV_a, kBV2_tt, kBV2_ff, kBV2_tf, kBV2_ft, kBT_tt, kBT_ff, kBT_tf, kBT_ft, kComp_a, kSrc_a, kChain_a, kChain2_a, kChain3_t, kChain3_f, kSet_a, kPar_a, kUnp_a, kFor_a, gV_d, gV_dk, gO_d, gO_o, var_v, var_o, var_t, oV_d, oV_own, tV_d, tV_own, vB_s, oB_s, non_v, non_o, bl_v, bl_o, bl_t, int_v, int_o, str_v, str_o, glb_v, glb_o, tup_v, tup_o, lst_v, lst_o, bin_v, bin_o, bin_t, cmp_t, cmp_v, cmp_o, isN_t, isN_v, isi_t, isi_v, not_t, bop_v, bop_o, bop_t, ife_v, ife_o, idx_v, idx_o, slA_v, slA_o, slB_v, slB_o, call_v, call_o, call_t, callk_v, blt_v, blt_o, comp_v, comp_o, compIf_v, compIf_o, dict0_v, dict1_v, src_eq, rng1_v, zip_v, chain_t, as_nl, as_cs, ds_nl, ds_cs, os_nl, os_cs, vs_nl, vs_cs, es_nl, es_cs, bv_1, bv_2, bt_1, bt_2, s_nil, s_cons, s_set, s_setLc, s_par, s_unp, s_ite, s_loop, s_frz, s_app, rt_non, rt_bl, rt_int, rt_str, rt_glb, rt_tup, rt_lst, rt_bin, rt_cmp, rt_chain, rt_isN, rt_not, rt_bop, rt_ife, rt_idx, rt_slA, rt_slB, rt_call, rt_callk, rt_blt, rt_comp, rt_compIf, rt_isi, gR_s, rt_var, DV.dat, DV.fz, List.getElem?_cons_zero, List.getElem?_cons_succ, List.set_cons_zero, List.set_cons_succ, Option.map_some, Option.map_none, Option.bind_some, Option.bind_none, List.any_cons, List.any_nil, Bool.or_false, Bool.false_or, Bool.or_true, Bool.true_or, Bool.not_true, Bool.not_false, isTy, bltD, blt1, blt2, truthD, intD, setAll, setMany, slAB_v, slAB_o, kSlAB_a, kSlAB0_a, kSlAB1_a, kSlAB2_a, neg_v, neg_o, kNeg_i, notN_t, not_v, s_aug, kAug_a, s_whil, s_brk, s_cont, s_retN, s_popAt, callk_o, kCallk_a, kCallk2_a, dkey_i, dkey_s, kDict_a, kDictU_a, kDict2_d, wp_some, wp_bO, wp_thn, wp_endOf, wp_oV, wp_tV, wp_vB, wp_oB, kW_a, kT_a, kE_a, kOV_a, kTV_a, kVB_a, kOB_a]
      refine (oddc c q hq (by omega)).mono fun v k h => ?_
      simp only [bO_some, bO_none, lO_some, lO_none, iB_t, iB_f, thn_nx, thn_rt, thn_bk, thn_ct, endOf_rt, endOf_nx, kLift_a, kOk_a, kO2_a, kIte_t, kIte_f, kIfe_t, kIfe_f, kCall_a, kArgs_a, kArgs2_a, kVals_a, kVals2_a, kOpd_a, kOpd2_a, kDat_a, kDat2_a, kBV_a, kBV2_tt, kBV2_ff, kBV2_tf, kBV2_ft, kBT_tt, kBT_ff, kBT_tf, kBT_ft, kComp_a, kSrc_a, kChain_a, kChain2_a, kChain3_t, kChain3_f, kSet_a, kPar_a, kUnp_a, kFor_a, gV_d, gV_dk, gO_d, gO_o, var_v, var_o, var_t, oV_d, oV_own, tV_d, tV_own, vB_s, oB_s, non_v, non_o, bl_v, bl_o, bl_t, int_v, int_o, str_v, str_o, glb_v, glb_o, tup_v, tup_o, lst_v, lst_o, bin_v, bin_o, bin_t, cmp_t, cmp_v, cmp_o, isN_t, isN_v, isi_t, isi_v, not_t, bop_v, bop_o, bop_t, ife_v, ife_o, idx_v, idx_o, slA_v, slA_o, slB_v, slB_o, call_v, call_o, call_t, callk_v, blt_v, blt_o, comp_v, comp_o, compIf_v, compIf_o, dict0_v, dict1_v, src_eq, rng1_v, zip_v, chain_t, as_nl, as_cs, ds_nl, ds_cs, os_nl, os_cs, vs_nl, vs_cs, es_nl, es_cs, bv_1, bv_2, bt_1, bt_2, s_nil, s_cons, s_set, s_setLc, s_par, s_unp, s_ite, s_loop, s_frz, s_app, rt_non, rt_bl, rt_int, rt_str, rt_glb, rt_tup, rt_lst, rt_bin, rt_cmp, rt_chain, rt_isN, rt_not, rt_bop, rt_ife, rt_idx, rt_slA, rt_slB, rt_call, rt_callk, rt_blt, rt_comp, rt_compIf, rt_isi, gR_s, rt_var, DV.dat, DV.fz, List.getElem?_cons_zero, List.getElem?_cons_succ, List.set_cons_zero, List.set_cons_succ, Option.map_some, Option.map_none, Option.bind_some, Option.bind_none, List.any_cons, List.any_nil, Bool.or_false, Bool.false_or, Bool.or_true, Bool.true_or, Bool.not_true, Bool.not_false, isTy, bltD, blt1, blt2, truthD, intD, setAll, setMany, slAB_v, slAB_o, kSlAB_a, kSlAB0_a, kSlAB1_a, kSlAB2_a, neg_v, neg_o, kNeg_i, notN_t, not_v, s_aug, kAug_a, s_whil, s_brk, s_cont, s_retN, s_popAt, callk_o, kCallk_a, kCallk2_a, dkey_i, dkey_s, kDict_a, kDictU_a, kDict2_d, wp_some, wp_bO, wp_thn, wp_endOf, wp_oV, wp_tV, wp_vB, wp_oB, kW_a, kT_a, kE_a, kOV_a, kTV_a, kVB_a, kOB_a]
      exact h
end K06

set_option maxHeartbeats 4000000
/-! k06: deep things; the law's looks. -/
namespace K06
open PySem TA TM
def aL : List PyData := List.replicate 2900 (.str "atom")
def aS : Str := Txt.mul "a" 2000
theorem mulT : binD .Mult (.tuple [.str "atom"]) (.int 2900) = some (.d (.tuple aL)) := by
  have e : (2900 : Int) = ((2900 : Nat) : Int) := by simp
  rw [e, tupMul (xs := [.str "atom"]) (k := 2900) (by decide) (by decide) (by decide), rep1]
  rfl
theorem mulL : binD .Mult (.list [.str "atom"]) (.int 2900) = some (.own aL) := by
  have e : (2900 : Int) = ((2900 : Nat) : Int) := by simp
  rw [e, lstMul (xs := [.str "atom"]) (k := 2900) (by decide) (by decide), rep1]
  rfl
theorem mulS : binD .Mult (.str "a") (.int 2000) = some (.d (.str aS)) := by
  simp only [binD]
  rw [if_pos ⟨by decide, by decide, by decide +kernel⟩]
  rfl
theorem sz_aL : Szs 40000 1 aL := by
  have h : Szs (aL.length * (10 + 2)) 1 aL := Szs.ofAll fun x hx => by
    have hx' : x ∈ List.replicate 2900 (PyData.str "atom") := hx
    rw [List.eq_of_mem_replicate hx']
    exact sz_atom.mono (Nat.le_refl _) (Nat.zero_le _)
  have l : aL.length = 2900 := by unfold aL; rw [List.length_replicate]
  rw [l] at h
  exact h.mono (by decide) (Nat.le_refl _)
theorem fold_rep {a : Array Nat} : ∀ (n : Nat) (acc : Array Nat), (List.foldl (fun x y => x ++ y) acc (List.replicate n a)).toList = acc.toList ++ (List.replicate n a.toList).flatten
  | 0, acc => by simp
  | n + 1, acc => by
    rw [List.replicate_succ, List.foldl_cons, fold_rep n (acc ++ a), List.replicate_succ, List.flatten_cons, Array.toList_append, List.append_assoc]
theorem mul_list (x : Str) (n : Nat) (h : 1 < n) (hx : x.length ≠ 0) : (Txt.mul x n).cps.toList = (List.replicate n x.cps.toList).flatten := by
  unfold Txt.mul
  have h1 : ¬ ((n : Int) < 1) := by omega
  have h2 : ¬ (((n : Int) == 1 || x.length == 0) = true) := by
    simp only [Bool.or_eq_true, beq_iff_eq]; omega
  rw [if_neg h1, if_neg h2, Int.toNat_natCast]
  show (List.foldl (fun x y => x ++ y) #[] (List.replicate n x.cps)).toList = _
  rw [fold_rep]
  rfl
theorem sz_mul (x : Str) (n : Nat) (h : 1 < n) (hx : x.length ≠ 0) (hc : ∀ c ∈ x.cps.toList, c < 16 ^ 8) : Sz (10 * (n * x.length) + 2) 0 (.str (Txt.mul x n)) := by
  refine ⟨by simp only [PyData.showable], ?_, by simp [PyData.depth]⟩
  have hl : (Txt.mul x n).length = n * x.length := by
    show (Txt.mul x n).cps.size = _
    rw [← Array.length_toList, mul_list x n h hx, List.length_flatten, List.map_replicate, List.sum_replicate_nat]
    rfl
  have h := StrLaws.reprText_len (Txt.mul x n) fun c hc' => by
    rw [mul_list x n h hx] at hc'
    simp only [List.mem_flatten, List.mem_replicate] at hc'
    obtain ⟨l, ⟨_, rfl⟩, hc'⟩ := hc'
    exact hc c hc'
  rw [hl] at h
  simp only [PyData.shown]
  omega
theorem sz_aS : Sz 30000 0 (.str aS) := by
  have e : (2000 : Int) = ((2000 : Nat) : Int) := by simp
  unfold aS
  rw [e]
  exact (sz_mul "a" 2000 (by decide) (by decide +kernel) (by decide +kernel)).mono (by decide +kernel) (Nat.le_refl _)
theorem rng14 : rngV (.int 14) = some (.d (.list (rngL 0 14))) := rngV_ok (n := 14) (by decide)
theorem rng4 : rngV (.int 4) = some (.d (.list (rngL 0 4))) := rngV_ok (n := 4) (by decide)
theorem rng_mem {n : Nat} {x : PyData} (h : x ∈ rngL 0 n) : ∃ i : Nat, x = .int i ∧ i < n := by
  simp only [rngL, List.mem_map, List.mem_range] at h
  obtain ⟨i, hi, rfl⟩ := h
  exact ⟨i, by simp, hi⟩
theorem sl100 : (100 : Nat) ≤ sizeLine := by decide
theorem rngSrc {n : Nat} (h : n ≤ 100) : srcL (rngL 0 n) = some (rngL 0 n) := srcL_ok (by rw [rng_len]; exact Nat.le_trans h sl100)
structure InI (fs : List PyData) (inn : PyData) (i : Nat) (q : Dk) (xs : List PyData) (ρ : TA.Env) (k : OD) : Prop where
  ex : ∃ it x, ρ = [some .dk, some (.own fs), some (.d inn), some (.d (.int i)), some (.d it), x] ∧ k = some q ∧ Sz (20 + 100 * (14 - xs.length)) (1 + 2 * (14 - xs.length)) it ∧ xs.length ≤ 14
structure OuI (inn : PyData) (q : Dk) (xs : List PyData) (ρ : TA.Env) (k : OD) : Prop where
  ex : ∃ fs x y z, ρ = [some .dk, some (.own fs), some (.d inn), x, y, z] ∧ k = some q ∧ (∀ f ∈ fs, Sz 2000 30 f) ∧ fs.length + xs.length = 4 ∧ ∀ x ∈ xs, ∃ i : Nat, x = .int i ∧ i < 4
theorem szsr {b e : Nat} {d : PyData} (h : Sz b e d) : Sz (b + 100) (e + 2) (.dict [(.str "set", .dict [(.str "row", d)])]) :=
  (Sz.dict1 (by decide +kernel) (Sz.dict1 (by decide +kernel) h)).mono (by omega) (by omega)
theorem inner (n : Nat) (fs : List PyData) (inn : PyData) (i : Nat) (hi : i < 4) (q : Dk) (x : Option DV) (h : Sz 20 1 inn) {Q : Fl → OD → Prop}
    (hQ : ∀ it x, Sz 2000 30 it → Q (.nx [some .dk, some (.own fs), some (.d inn), some (.d (.int i)), some (.d it), x]) (some q)) :
    Wp (forL (.one 5) (evSs (CX n) b19_0) (rngL 0 14) [some .dk, some (.own fs), some (.d inn), some (.d (.int i)), some (.d inn), x] (some q)) Q := by
  refine wp_for (InI fs inn i q) _ _ _ _ ⟨inn, x, rfl, rfl, h.mono (by rw [rng_len]; decide) (by rw [rng_len]; decide), by rw [rng_len]; decide⟩ (fun y ys ρ k hI => ?_) fun ρ k hI => ?_
  · obtain ⟨it, x, rfl, rfl, h1, h2⟩ := hI.ex
    rw [List.length_cons] at h1 h2
    refine ⟨_, rfl, ?_⟩
    have fin : ∀ it', Sz (20 + 100 * (14 - (ys.length + 1)) + 100) (1 + 2 * (14 - (ys.length + 1)) + 2) it' → InI fs inn i q ys [some .dk, some (.own fs), some (.d inn), some (.d (.int i)), some (.d it'), some (.d y)] (some q) := fun it' h' => ⟨it', _, rfl, rfl, h'.mono (by omega) (by omega), by omega⟩
    have ix : ∀ a b c d : PyData, idxV (.list [a, b, c, d]) (.int i) = some (.d ([a, b, c, d][i]'(by simpa using hi))) := fun a b c d => by
      simp only [idxV, idxD]
      rw [atI_nat (by simpa using hi)]
      rfl
    simp only [b19_0, bO_some, bO_none, lO_some, lO_none, iB_t, iB_f, thn_nx, thn_rt, thn_bk, thn_ct, endOf_rt, endOf_nx, kLift_a, kOk_a, kO2_a, kIte_t, kIte_f, kIfe_t, kIfe_f, kCall_a, kArgs_a, kArgs2_a, kVals_a, kVals2_a, kOpd_a, kOpd2_a, kDat_a, kDat2_a, kBV_a, kBV2_tt, kBV2_ff, kBV2_tf, kBV2_ft, kBT_tt, kBT_ff, kBT_tf, kBT_ft, kComp_a, kSrc_a, kChain_a, kChain2_a, kChain3_t, kChain3_f, kSet_a, kPar_a, kUnp_a, kFor_a, gV_d, gV_dk, gO_d, gO_o, var_v, var_o, var_t, oV_d, oV_own, tV_d, tV_own, vB_s, oB_s, non_v, non_o, bl_v, bl_o, bl_t, int_v, int_o, str_v, str_o, glb_v, glb_o, tup_v, tup_o, lst_v, lst_o, bin_v, bin_o, bin_t, cmp_t, cmp_v, cmp_o, isN_t, isN_v, isi_t, isi_v, not_t, bop_v, bop_o, bop_t, ife_v, ife_o, idx_v, idx_o, slA_v, slA_o, slB_v, slB_o, call_v, call_o, call_t, callk_v, blt_v, blt_o, comp_v, comp_o, compIf_v, compIf_o, dict0_v, dict1_v, src_eq, rng1_v, zip_v, chain_t, as_nl, as_cs, ds_nl, ds_cs, os_nl, os_cs, vs_nl, vs_cs, es_nl, es_cs, bv_1, bv_2, bt_1, bt_2, s_nil, s_cons, s_set, s_setLc, s_par, s_unp, s_ite, s_loop, s_frz, s_app, rt_non, rt_bl, rt_int, rt_str, rt_glb, rt_tup, rt_lst, rt_bin, rt_cmp, rt_chain, rt_isN, rt_not, rt_bop, rt_ife, rt_idx, rt_slA, rt_slB, rt_call, rt_callk, rt_blt, rt_comp, rt_compIf, rt_isi, gR_s, rt_var, DV.dat, DV.fz, List.getElem?_cons_zero, List.getElem?_cons_succ, List.set_cons_zero, List.set_cons_succ, Option.map_some, Option.map_none, Option.bind_some, Option.bind_none, List.any_cons, List.any_nil, Bool.or_false, Bool.false_or, Bool.or_true, Bool.true_or, Bool.not_true, Bool.not_false, isTy, bltD, blt1, blt2, truthD, intD, setAll, setMany, slAB_v, slAB_o, kSlAB_a, kSlAB0_a, kSlAB1_a, kSlAB2_a, neg_v, neg_o, kNeg_i, notN_t, not_v, s_aug, kAug_a, s_whil, s_brk, s_cont, s_retN, s_popAt, callk_o, kCallk_a, kCallk2_a, dkey_i, dkey_s, kDict_a, kDictU_a, kDict2_d, wp_some, wp_bO, wp_thn, wp_endOf, wp_oV, wp_tV, wp_vB, wp_oB, kW_a, kT_a, kE_a, kOV_a, kTV_a, kVB_a, kOB_a, List.set, ix]
    refine fin _ ?_
    match i, hi with
    | 0, _ => exact (sz2 sz_set (sz2 sz_set h1)).mono (by omega) (by omega)
    | 1, _ => exact (sz2 sz_row (sz1 h1)).mono (by omega) (by omega)
    | 2, _ => exact (szl1 (szl1 h1)).mono (by omega) (by omega)
    | 3, _ => exact szsr h1
  · obtain ⟨it, x, rfl, rfl, h1, h2⟩ := hI.ex
    exact hQ it x (h1.mono (by simp) (by simp))
theorem outer (n : Nat) (inn : PyData) (q1 : Dk) (si : Sz 20 1 inn) {Q : Fl → OD → Prop}
    (hQ : ∀ fs x y z, (∀ f ∈ fs, Sz 2000 30 f) → fs.length = 4 → Q (.nx [some .dk, some (.own fs), some (.d inn), x, y, z]) (some q1)) :
    Wp (forL (.one 3) (evSs (CX n) b19_1) (rngL 0 4) [some .dk, some (.own []), some (.d inn), none, none, none] (some q1)) Q := by
  refine wp_for (OuI inn q1) _ _ _ _ ⟨[], none, none, none, rfl, rfl, by simp, by rw [rng_len]; rfl, fun x hx => rng_mem hx⟩ (fun y ys ρ k hI => ?_) fun ρ k hI => ?_
  · obtain ⟨fs, x, y', z, rfl, rfl, h1, h2, h3⟩ := hI.ex
    obtain ⟨i, rfl, hi4⟩ := h3 y List.mem_cons_self
    refine ⟨_, rfl, ?_⟩
    simp only [b19_1, bO_some, bO_none, lO_some, lO_none, iB_t, iB_f, thn_nx, thn_rt, thn_bk, thn_ct, endOf_rt, endOf_nx, kLift_a, kOk_a, kO2_a, kIte_t, kIte_f, kIfe_t, kIfe_f, kCall_a, kArgs_a, kArgs2_a, kVals_a, kVals2_a, kOpd_a, kOpd2_a, kDat_a, kDat2_a, kBV_a, kBV2_tt, kBV2_ff, kBV2_tf, kBV2_ft, kBT_tt, kBT_ff, kBT_tf, kBT_ft, kComp_a, kSrc_a, kChain_a, kChain2_a, kChain3_t, kChain3_f, kSet_a, kPar_a, kUnp_a, kFor_a, gV_d, gV_dk, gO_d, gO_o, var_v, var_o, var_t, oV_d, oV_own, tV_d, tV_own, vB_s, oB_s, non_v, non_o, bl_v, bl_o, bl_t, int_v, int_o, str_v, str_o, glb_v, glb_o, tup_v, tup_o, lst_v, lst_o, bin_v, bin_o, bin_t, cmp_t, cmp_v, cmp_o, isN_t, isN_v, isi_t, isi_v, not_t, bop_v, bop_o, bop_t, ife_v, ife_o, idx_v, idx_o, slA_v, slA_o, slB_v, slB_o, call_v, call_o, call_t, callk_v, blt_v, blt_o, comp_v, comp_o, compIf_v, compIf_o, dict0_v, dict1_v, src_eq, rng1_v, zip_v, chain_t, as_nl, as_cs, ds_nl, ds_cs, os_nl, os_cs, vs_nl, vs_cs, es_nl, es_cs, bv_1, bv_2, bt_1, bt_2, s_nil, s_cons, s_set, s_setLc, s_par, s_unp, s_ite, s_loop, s_frz, s_app, rt_non, rt_bl, rt_int, rt_str, rt_glb, rt_tup, rt_lst, rt_bin, rt_cmp, rt_chain, rt_isN, rt_not, rt_bop, rt_ife, rt_idx, rt_slA, rt_slB, rt_call, rt_callk, rt_blt, rt_comp, rt_compIf, rt_isi, gR_s, rt_var, DV.dat, DV.fz, List.getElem?_cons_zero, List.getElem?_cons_succ, List.set_cons_zero, List.set_cons_succ, Option.map_some, Option.map_none, Option.bind_some, Option.bind_none, List.any_cons, List.any_nil, Bool.or_false, Bool.false_or, Bool.or_true, Bool.true_or, Bool.not_true, Bool.not_false, isTy, bltD, blt1, blt2, truthD, intD, setAll, setMany, slAB_v, slAB_o, kSlAB_a, kSlAB0_a, kSlAB1_a, kSlAB2_a, neg_v, neg_o, kNeg_i, notN_t, not_v, s_aug, kAug_a, s_whil, s_brk, s_cont, s_retN, s_popAt, callk_o, kCallk_a, kCallk2_a, dkey_i, dkey_s, kDict_a, kDictU_a, kDict2_d, wp_some, wp_bO, wp_thn, wp_endOf, wp_oV, wp_tV, wp_vB, wp_oB, kW_a, kT_a, kE_a, kOV_a, kTV_a, kVB_a, kOB_a, List.set, rng14, itemsD, rngSrc (show 14 ≤ 100 by decide)]
    refine inner n fs inn i hi4 q1 _ si fun it x hit => ?_
    have ap := kApp_a (i := 1) (ρ := [some .dk, some (.own fs), some (.d inn), some (.d (.int i)), some (.d it), x]) (k := some q1) (x := .d it) rfl rfl (show fs.length < sizeLine from Nat.lt_of_lt_of_le (by rw [List.length_cons] at h2; omega) sl100)
    simp only [bO_some, bO_none, lO_some, lO_none, iB_t, iB_f, thn_nx, thn_rt, thn_bk, thn_ct, endOf_rt, endOf_nx, kLift_a, kOk_a, kO2_a, kIte_t, kIte_f, kIfe_t, kIfe_f, kCall_a, kArgs_a, kArgs2_a, kVals_a, kVals2_a, kOpd_a, kOpd2_a, kDat_a, kDat2_a, kBV_a, kBV2_tt, kBV2_ff, kBV2_tf, kBV2_ft, kBT_tt, kBT_ff, kBT_tf, kBT_ft, kComp_a, kSrc_a, kChain_a, kChain2_a, kChain3_t, kChain3_f, kSet_a, kPar_a, kUnp_a, kFor_a, gV_d, gV_dk, gO_d, gO_o, var_v, var_o, var_t, oV_d, oV_own, tV_d, tV_own, vB_s, oB_s, non_v, non_o, bl_v, bl_o, bl_t, int_v, int_o, str_v, str_o, glb_v, glb_o, tup_v, tup_o, lst_v, lst_o, bin_v, bin_o, bin_t, cmp_t, cmp_v, cmp_o, isN_t, isN_v, isi_t, isi_v, not_t, bop_v, bop_o, bop_t, ife_v, ife_o, idx_v, idx_o, slA_v, slA_o, slB_v, slB_o, call_v, call_o, call_t, callk_v, blt_v, blt_o, comp_v, comp_o, compIf_v, compIf_o, dict0_v, dict1_v, src_eq, rng1_v, zip_v, chain_t, as_nl, as_cs, ds_nl, ds_cs, os_nl, os_cs, vs_nl, vs_cs, es_nl, es_cs, bv_1, bv_2, bt_1, bt_2, s_nil, s_cons, s_set, s_setLc, s_par, s_unp, s_ite, s_loop, s_frz, s_app, rt_non, rt_bl, rt_int, rt_str, rt_glb, rt_tup, rt_lst, rt_bin, rt_cmp, rt_chain, rt_isN, rt_not, rt_bop, rt_ife, rt_idx, rt_slA, rt_slB, rt_call, rt_callk, rt_blt, rt_comp, rt_compIf, rt_isi, gR_s, rt_var, DV.dat, DV.fz, List.getElem?_cons_zero, List.getElem?_cons_succ, List.set_cons_zero, List.set_cons_succ, Option.map_some, Option.map_none, Option.bind_some, Option.bind_none, List.any_cons, List.any_nil, Bool.or_false, Bool.false_or, Bool.or_true, Bool.true_or, Bool.not_true, Bool.not_false, isTy, bltD, blt1, blt2, truthD, intD, setAll, setMany, slAB_v, slAB_o, kSlAB_a, kSlAB0_a, kSlAB1_a, kSlAB2_a, neg_v, neg_o, kNeg_i, notN_t, not_v, s_aug, kAug_a, s_whil, s_brk, s_cont, s_retN, s_popAt, callk_o, kCallk_a, kCallk2_a, dkey_i, dkey_s, kDict_a, kDictU_a, kDict2_d, wp_some, wp_bO, wp_thn, wp_endOf, wp_oV, wp_tV, wp_vB, wp_oB, kW_a, kT_a, kE_a, kOV_a, kTV_a, kVB_a, kOB_a, ap]
    refine ⟨fs ++ [it], _, _, _, rfl, rfl, fun f hf => ?_, by rw [List.length_cons] at h2; simp; omega, fun x hx => h3 x (List.mem_cons_of_mem _ hx)⟩
    rw [List.mem_append, List.mem_singleton] at hf
    rcases hf with hf | rfl
    · exact h1 f hf
    · exact hit
  · obtain ⟨fs, x, y', z, rfl, rfl, h1, h2, h3⟩ := hI.ex
    rw [List.length_nil, Nat.add_zero] at h2
    exact hQ fs x y' z h1 h2
theorem deepThings (n : Nat) (c : Int) (q : Dk) {Q : DV → OD → Prop} (h : DkOk c q) (hc : c < 1000000000) (hQ : ∀ ds q', (∀ d ∈ ds, repOk d = true) → ds.length ≤ 10 → DkOk (c + 1) q' → Q (.own ds) (some q')) : Wp (callD Pg (n + 3) 19 [.dk] (some q)) Q := by
  show Wp (endOf (evSs (CX (n + 2)) b19 [some .dk, none, none, none, none, none] (some q))) Q
  unfold b19
  simp only [bO_some, bO_none, lO_some, lO_none, iB_t, iB_f, thn_nx, thn_rt, thn_bk, thn_ct, endOf_rt, endOf_nx, kLift_a, kOk_a, kO2_a, kIte_t, kIte_f, kIfe_t, kIfe_f, kCall_a, kArgs_a, kArgs2_a, kVals_a, kVals2_a, kOpd_a, kOpd2_a, kDat_a, kDat2_a, kBV_a, kBV2_tt, kBV2_ff, kBV2_tf, kBV2_ft, kBT_tt, kBT_ff, kBT_tf, kBT_ft, kComp_a, kSrc_a, kChain_a, kChain2_a, kChain3_t, kChain3_f, kSet_a, kPar_a, kUnp_a, kFor_a, gV_d, gV_dk, gO_d, gO_o, var_v, var_o, var_t, oV_d, oV_own, tV_d, tV_own, vB_s, oB_s, non_v, non_o, bl_v, bl_o, bl_t, int_v, int_o, str_v, str_o, glb_v, glb_o, tup_v, tup_o, lst_v, lst_o, bin_v, bin_o, bin_t, cmp_t, cmp_v, cmp_o, isN_t, isN_v, isi_t, isi_v, not_t, bop_v, bop_o, bop_t, ife_v, ife_o, idx_v, idx_o, slA_v, slA_o, slB_v, slB_o, call_v, call_o, call_t, callk_v, blt_v, blt_o, comp_v, comp_o, compIf_v, compIf_o, dict0_v, dict1_v, src_eq, rng1_v, zip_v, chain_t, as_nl, as_cs, ds_nl, ds_cs, os_nl, os_cs, vs_nl, vs_cs, es_nl, es_cs, bv_1, bv_2, bt_1, bt_2, s_nil, s_cons, s_set, s_setLc, s_par, s_unp, s_ite, s_loop, s_frz, s_app, rt_non, rt_bl, rt_int, rt_str, rt_glb, rt_tup, rt_lst, rt_bin, rt_cmp, rt_chain, rt_isN, rt_not, rt_bop, rt_ife, rt_idx, rt_slA, rt_slB, rt_call, rt_callk, rt_blt, rt_comp, rt_compIf, rt_isi, gR_s, rt_var, DV.dat, DV.fz, List.getElem?_cons_zero, List.getElem?_cons_succ, List.set_cons_zero, List.set_cons_succ, Option.map_some, Option.map_none, Option.bind_some, Option.bind_none, List.any_cons, List.any_nil, Bool.or_false, Bool.false_or, Bool.or_true, Bool.true_or, Bool.not_true, Bool.not_false, isTy, bltD, blt1, blt2, truthD, intD, setAll, setMany, slAB_v, slAB_o, kSlAB_a, kSlAB0_a, kSlAB1_a, kSlAB2_a, neg_v, neg_o, kNeg_i, notN_t, not_v, s_aug, kAug_a, s_whil, s_brk, s_cont, s_retN, s_popAt, callk_o, kCallk_a, kCallk2_a, dkey_i, dkey_s, kDict_a, kDictU_a, kDict2_d, wp_some, wp_bO, wp_thn, wp_endOf, wp_oV, wp_tV, wp_vB, wp_oB, kW_a, kT_a, kE_a, kOV_a, kTV_a, kVB_a, kOB_a]
  refine wpick (by simp) (by simp) h hc fun inn q1 hi hq1 => ?_
  have si : Sz 20 1 inn := by
    simp only [List.mem_cons, List.not_mem_nil, or_false] at hi
    rcases hi with rfl | rfl | rfl | rfl | rfl
    · exact sz_atom.mono (by decide) (by decide)
    · exact ⟨by decide +kernel, by decide +kernel, by simp [PyData.depth]⟩
    · exact sz_none.mono (by decide) (by decide)
    · exact ⟨by decide +kernel, by decide +kernel, by simp [PyData.depth]⟩
    · exact ⟨by decide +kernel, by decide +kernel, by simp [PyData.depth, PyData.depthAll]⟩
  simp only [bO_some, bO_none, lO_some, lO_none, iB_t, iB_f, thn_nx, thn_rt, thn_bk, thn_ct, endOf_rt, endOf_nx, kLift_a, kOk_a, kO2_a, kIte_t, kIte_f, kIfe_t, kIfe_f, kCall_a, kArgs_a, kArgs2_a, kVals_a, kVals2_a, kOpd_a, kOpd2_a, kDat_a, kDat2_a, kBV_a, kBV2_tt, kBV2_ff, kBV2_tf, kBV2_ft, kBT_tt, kBT_ff, kBT_tf, kBT_ft, kComp_a, kSrc_a, kChain_a, kChain2_a, kChain3_t, kChain3_f, kSet_a, kPar_a, kUnp_a, kFor_a, gV_d, gV_dk, gO_d, gO_o, var_v, var_o, var_t, oV_d, oV_own, tV_d, tV_own, vB_s, oB_s, non_v, non_o, bl_v, bl_o, bl_t, int_v, int_o, str_v, str_o, glb_v, glb_o, tup_v, tup_o, lst_v, lst_o, bin_v, bin_o, bin_t, cmp_t, cmp_v, cmp_o, isN_t, isN_v, isi_t, isi_v, not_t, bop_v, bop_o, bop_t, ife_v, ife_o, idx_v, idx_o, slA_v, slA_o, slB_v, slB_o, call_v, call_o, call_t, callk_v, blt_v, blt_o, comp_v, comp_o, compIf_v, compIf_o, dict0_v, dict1_v, src_eq, rng1_v, zip_v, chain_t, as_nl, as_cs, ds_nl, ds_cs, os_nl, os_cs, vs_nl, vs_cs, es_nl, es_cs, bv_1, bv_2, bt_1, bt_2, s_nil, s_cons, s_set, s_setLc, s_par, s_unp, s_ite, s_loop, s_frz, s_app, rt_non, rt_bl, rt_int, rt_str, rt_glb, rt_tup, rt_lst, rt_bin, rt_cmp, rt_chain, rt_isN, rt_not, rt_bop, rt_ife, rt_idx, rt_slA, rt_slB, rt_call, rt_callk, rt_blt, rt_comp, rt_compIf, rt_isi, gR_s, rt_var, DV.dat, DV.fz, List.getElem?_cons_zero, List.getElem?_cons_succ, List.set_cons_zero, List.set_cons_succ, Option.map_some, Option.map_none, Option.bind_some, Option.bind_none, List.any_cons, List.any_nil, Bool.or_false, Bool.false_or, Bool.or_true, Bool.true_or, Bool.not_true, Bool.not_false, isTy, bltD, blt1, blt2, truthD, intD, setAll, setMany, slAB_v, slAB_o, kSlAB_a, kSlAB0_a, kSlAB1_a, kSlAB2_a, neg_v, neg_o, kNeg_i, notN_t, not_v, s_aug, kAug_a, s_whil, s_brk, s_cont, s_retN, s_popAt, callk_o, kCallk_a, kCallk2_a, dkey_i, dkey_s, kDict_a, kDictU_a, kDict2_d, wp_some, wp_bO, wp_thn, wp_endOf, wp_oV, wp_tV, wp_vB, wp_oB, kW_a, kT_a, kE_a, kOV_a, kTV_a, kVB_a, kOB_a, rng4, itemsD, rngSrc (show 4 ≤ 100 by decide)]
  refine outer (n + 2) inn q1 si fun fs x y z h1 h2 => ?_
  simp only [bO_some, bO_none, lO_some, lO_none, iB_t, iB_f, thn_nx, thn_rt, thn_bk, thn_ct, endOf_rt, endOf_nx, kLift_a, kOk_a, kO2_a, kIte_t, kIte_f, kIfe_t, kIfe_f, kCall_a, kArgs_a, kArgs2_a, kVals_a, kVals2_a, kOpd_a, kOpd2_a, kDat_a, kDat2_a, kBV_a, kBV2_tt, kBV2_ff, kBV2_tf, kBV2_ft, kBT_tt, kBT_ff, kBT_tf, kBT_ft, kComp_a, kSrc_a, kChain_a, kChain2_a, kChain3_t, kChain3_f, kSet_a, kPar_a, kUnp_a, kFor_a, gV_d, gV_dk, gO_d, gO_o, var_v, var_o, var_t, oV_d, oV_own, tV_d, tV_own, vB_s, oB_s, non_v, non_o, bl_v, bl_o, bl_t, int_v, int_o, str_v, str_o, glb_v, glb_o, tup_v, tup_o, lst_v, lst_o, bin_v, bin_o, bin_t, cmp_t, cmp_v, cmp_o, isN_t, isN_v, isi_t, isi_v, not_t, bop_v, bop_o, bop_t, ife_v, ife_o, idx_v, idx_o, slA_v, slA_o, slB_v, slB_o, call_v, call_o, call_t, callk_v, blt_v, blt_o, comp_v, comp_o, compIf_v, compIf_o, dict0_v, dict1_v, src_eq, rng1_v, zip_v, chain_t, as_nl, as_cs, ds_nl, ds_cs, os_nl, os_cs, vs_nl, vs_cs, es_nl, es_cs, bv_1, bv_2, bt_1, bt_2, s_nil, s_cons, s_set, s_setLc, s_par, s_unp, s_ite, s_loop, s_frz, s_app, rt_non, rt_bl, rt_int, rt_str, rt_glb, rt_tup, rt_lst, rt_bin, rt_cmp, rt_chain, rt_isN, rt_not, rt_bop, rt_ife, rt_idx, rt_slA, rt_slB, rt_call, rt_callk, rt_blt, rt_comp, rt_compIf, rt_isi, gR_s, rt_var, DV.dat, DV.fz, List.getElem?_cons_zero, List.getElem?_cons_succ, List.set_cons_zero, List.set_cons_succ, Option.map_some, Option.map_none, Option.bind_some, Option.bind_none, List.any_cons, List.any_nil, Bool.or_false, Bool.false_or, Bool.or_true, Bool.true_or, Bool.not_true, Bool.not_false, isTy, bltD, blt1, blt2, truthD, intD, setAll, setMany, slAB_v, slAB_o, kSlAB_a, kSlAB0_a, kSlAB1_a, kSlAB2_a, neg_v, neg_o, kNeg_i, notN_t, not_v, s_aug, kAug_a, s_whil, s_brk, s_cont, s_retN, s_popAt, callk_o, kCallk_a, kCallk2_a, dkey_i, dkey_s, kDict_a, kDictU_a, kDict2_d, wp_some, wp_bO, wp_thn, wp_endOf, wp_oV, wp_tV, wp_vB, wp_oB, kW_a, kT_a, kE_a, kOV_a, kTV_a, kVB_a, kOB_a, mulT, mulL, mulS]
  rw [lstAdd (by simp; omega)]
  simp only [bO_some, bO_none, lO_some, lO_none, iB_t, iB_f, thn_nx, thn_rt, thn_bk, thn_ct, endOf_rt, endOf_nx, kLift_a, kOk_a, kO2_a, kIte_t, kIte_f, kIfe_t, kIfe_f, kCall_a, kArgs_a, kArgs2_a, kVals_a, kVals2_a, kOpd_a, kOpd2_a, kDat_a, kDat2_a, kBV_a, kBV2_tt, kBV2_ff, kBV2_tf, kBV2_ft, kBT_tt, kBT_ff, kBT_tf, kBT_ft, kComp_a, kSrc_a, kChain_a, kChain2_a, kChain3_t, kChain3_f, kSet_a, kPar_a, kUnp_a, kFor_a, gV_d, gV_dk, gO_d, gO_o, var_v, var_o, var_t, oV_d, oV_own, tV_d, tV_own, vB_s, oB_s, non_v, non_o, bl_v, bl_o, bl_t, int_v, int_o, str_v, str_o, glb_v, glb_o, tup_v, tup_o, lst_v, lst_o, bin_v, bin_o, bin_t, cmp_t, cmp_v, cmp_o, isN_t, isN_v, isi_t, isi_v, not_t, bop_v, bop_o, bop_t, ife_v, ife_o, idx_v, idx_o, slA_v, slA_o, slB_v, slB_o, call_v, call_o, call_t, callk_v, blt_v, blt_o, comp_v, comp_o, compIf_v, compIf_o, dict0_v, dict1_v, src_eq, rng1_v, zip_v, chain_t, as_nl, as_cs, ds_nl, ds_cs, os_nl, os_cs, vs_nl, vs_cs, es_nl, es_cs, bv_1, bv_2, bt_1, bt_2, s_nil, s_cons, s_set, s_setLc, s_par, s_unp, s_ite, s_loop, s_frz, s_app, rt_non, rt_bl, rt_int, rt_str, rt_glb, rt_tup, rt_lst, rt_bin, rt_cmp, rt_chain, rt_isN, rt_not, rt_bop, rt_ife, rt_idx, rt_slA, rt_slB, rt_call, rt_callk, rt_blt, rt_comp, rt_compIf, rt_isi, gR_s, rt_var, DV.dat, DV.fz, List.getElem?_cons_zero, List.getElem?_cons_succ, List.set_cons_zero, List.set_cons_succ, Option.map_some, Option.map_none, Option.bind_some, Option.bind_none, List.any_cons, List.any_nil, Bool.or_false, Bool.false_or, Bool.or_true, Bool.true_or, Bool.not_true, Bool.not_false, isTy, bltD, blt1, blt2, truthD, intD, setAll, setMany, slAB_v, slAB_o, kSlAB_a, kSlAB0_a, kSlAB1_a, kSlAB2_a, neg_v, neg_o, kNeg_i, notN_t, not_v, s_aug, kAug_a, s_whil, s_brk, s_cont, s_retN, s_popAt, callk_o, kCallk_a, kCallk2_a, dkey_i, dkey_s, kDict_a, kDictU_a, kDict2_d, wp_some, wp_bO, wp_thn, wp_endOf, wp_oV, wp_tV, wp_vB, wp_oB, kW_a, kT_a, kE_a, kOV_a, kTV_a, kVB_a, kOB_a]
  refine hQ _ q1 (fun d hd => ?_) (by simp; omega) hq1
  simp only [List.mem_append, List.mem_cons, List.not_mem_nil, or_false] at hd
  rcases hd with hd | rfl | rfl | rfl
  · exact repOk_of (h1 d hd) (by decide) (by decide)
  · exact repOk_of (sz2 sz_row sz_aL.tup) (by decide) (by decide)
  · exact repOk_of sz_aL.lst (by decide) (by decide)
  · exact repOk_of (sz2 sz_set sz_aS) (by decide) (by decide)
/-! ### recognized -/
theorem rep_d {d : PyData} (h : repOk d = true) : repB d = some (.d (.str d.shown)) := by rw [repB, h]; rfl
theorem kw0 : Pg.kws[0]? = some [0] := rfl
theorem kw1 : Pg.kws[1]? = some [1, 0] := rfl
theorem kw2 : Pg.kws[2]? = some [1, 0] := rfl
theorem pm0 {x : DV} : permL [0] [x] = [x] := rfl
theorem pm1 {x y : DV} : permL [1, 0] [x, y] = [y, x] := rfl
theorem beq_str (x : Str) : (x == x) = true := by simp
theorem recog (n : Nat) (d : PyData) (k : OD) (h : repOk d = true) (hn : 10 ≤ n) : callD Pg n 16 [.d d] k = some (.d (.bool true), k) := by
  obtain ⟨n, rfl⟩ : ∃ m, n = m + 1 := ⟨n - 1, by omega⟩
  show endOf (evSs (CX n) b16 [some (.d d), none, none] k) = _
  have e1 := own_ok n 3 3 d k (by omega)
  have e2 := kind_ok n d k (by omega)
  rw [isK_fuel (n - 1) n 3 3 d (by omega) (by omega)] at e2
  have e1' : callD Pg n 13 [.d d, .d (.int 3), .d (.int 3)] k = some (.d (.bool (isK n 3 3 d)), k) := e1
  have rb : repB (.list [.bool (isK n 3 3 d), .bool (isK n 3 3 d)]) = some (.d (.str (PyData.shown (.list [.bool (isK n 3 3 d), .bool (isK n 3 3 d)])))) := rep_d (by cases isK n 3 3 d <;> decide +kernel)
  unfold b16
  simp only [bO_some, bO_none, lO_some, lO_none, iB_t, iB_f, thn_nx, thn_rt, thn_bk, thn_ct, endOf_rt, endOf_nx, kLift_a, kOk_a, kO2_a, kIte_t, kIte_f, kIfe_t, kIfe_f, kCall_a, kArgs_a, kArgs2_a, kVals_a, kVals2_a, kOpd_a, kOpd2_a, kDat_a, kDat2_a, kBV_a, kBV2_tt, kBV2_ff, kBV2_tf, kBV2_ft, kBT_tt, kBT_ff, kBT_tf, kBT_ft, kComp_a, kSrc_a, kChain_a, kChain2_a, kChain3_t, kChain3_f, kSet_a, kPar_a, kUnp_a, kFor_a, gV_d, gV_dk, gO_d, gO_o, var_v, var_o, var_t, oV_d, oV_own, tV_d, tV_own, vB_s, oB_s, non_v, non_o, bl_v, bl_o, bl_t, int_v, int_o, str_v, str_o, glb_v, glb_o, tup_v, tup_o, lst_v, lst_o, bin_v, bin_o, bin_t, cmp_t, cmp_v, cmp_o, isN_t, isN_v, isi_t, isi_v, not_t, bop_v, bop_o, bop_t, ife_v, ife_o, idx_v, idx_o, slA_v, slA_o, slB_v, slB_o, call_v, call_o, call_t, callk_v, blt_v, blt_o, comp_v, comp_o, compIf_v, compIf_o, dict0_v, dict1_v, src_eq, rng1_v, zip_v, chain_t, as_nl, as_cs, ds_nl, ds_cs, os_nl, os_cs, vs_nl, vs_cs, es_nl, es_cs, bv_1, bv_2, bt_1, bt_2, s_nil, s_cons, s_set, s_setLc, s_par, s_unp, s_ite, s_loop, s_frz, s_app, rt_non, rt_bl, rt_int, rt_str, rt_glb, rt_tup, rt_lst, rt_bin, rt_cmp, rt_chain, rt_isN, rt_not, rt_bop, rt_ife, rt_idx, rt_slA, rt_slB, rt_call, rt_callk, rt_blt, rt_comp, rt_compIf, rt_isi, gR_s, rt_var, DV.dat, DV.fz, List.getElem?_cons_zero, List.getElem?_cons_succ, List.set_cons_zero, List.set_cons_succ, Option.map_some, Option.map_none, Option.bind_some, Option.bind_none, List.any_cons, List.any_nil, Bool.or_false, Bool.false_or, Bool.or_true, Bool.true_or, Bool.not_true, Bool.not_false, isTy, bltD, blt1, blt2, truthD, intD, setAll, setMany, slAB_v, slAB_o, kSlAB_a, kSlAB0_a, kSlAB1_a, kSlAB2_a, neg_v, neg_o, kNeg_i, notN_t, not_v, s_aug, kAug_a, s_whil, s_brk, s_cont, s_retN, s_popAt, callk_o, kCallk_a, kCallk2_a, dkey_i, dkey_s, kDict_a, kDictU_a, kDict2_d, rep_d h, e1', e2, kw0, pm0, rb, eqS, beq_str]
theorem bools {b1 b2 b3 : Bool} : repOk (.list [.bool b1, .bool b2, .bool b3]) = true := by cases b1 <;> cases b2 <;> cases b3 <;> decide +kernel
theorem Kd.pos {n : Nat} {d : PyData} (h : Kd n d) : 0 < n := by
  cases n with
  | zero => exact h.elim
  | succ n => omega
theorem fS10 {n : Nat} (h : 0 < n) : 10 ≤ fS n := by
  cases n with
  | zero => omega
  | succ n => show 10 ≤ 4 * fS n + 40; omega
theorem Kd.oz {n : Nat} {o : Option PyData} (hn : 0 < n) (h : ∀ d, o = some d → Kd n d) : Nice (2 * n) (oD o) ∧ Sz (fS n) (2 * n) (oD o) := by
  cases o with
  | none => exact ⟨nice_none _, sz_none.mono (fS10 hn) (Nat.zero_le _)⟩
  | some d => exact ⟨(h d rfl).nice, (h d rfl).sz⟩
theorem fit_ok (m n : Nat) (a b : PyData) (k : OD) (hm : m ≤ 20) (hn : 2 * m + 1 ≤ n) (ha : Kd m a) (hb : Kd m b) : callD Pg n 4 [.d a, .d b] k = some (.d (.bool (PyData.eqv (oD (J m a b)) b)), k) := by
  obtain ⟨n, rfl⟩ : ∃ m, n = m + 1 := ⟨n - 1, by omega⟩
  show endOf (evSs (CX n) b4 [some (.d a), some (.d b)] k) = _
  have e := join_ok m n a b k hm (by omega) ha hb
  have ne := (Kd.oz ha.pos fun d hd => J_kd ha hb hd).1
  unfold b4
  simp only [bO_some, bO_none, lO_some, lO_none, iB_t, iB_f, thn_nx, thn_rt, thn_bk, thn_ct, endOf_rt, endOf_nx, kLift_a, kOk_a, kO2_a, kIte_t, kIte_f, kIfe_t, kIfe_f, kCall_a, kArgs_a, kArgs2_a, kVals_a, kVals2_a, kOpd_a, kOpd2_a, kDat_a, kDat2_a, kBV_a, kBV2_tt, kBV2_ff, kBV2_tf, kBV2_ft, kBT_tt, kBT_ff, kBT_tf, kBT_ft, kComp_a, kSrc_a, kChain_a, kChain2_a, kChain3_t, kChain3_f, kSet_a, kPar_a, kUnp_a, kFor_a, gV_d, gV_dk, gO_d, gO_o, var_v, var_o, var_t, oV_d, oV_own, tV_d, tV_own, vB_s, oB_s, non_v, non_o, bl_v, bl_o, bl_t, int_v, int_o, str_v, str_o, glb_v, glb_o, tup_v, tup_o, lst_v, lst_o, bin_v, bin_o, bin_t, cmp_t, cmp_v, cmp_o, isN_t, isN_v, isi_t, isi_v, not_t, bop_v, bop_o, bop_t, ife_v, ife_o, idx_v, idx_o, slA_v, slA_o, slB_v, slB_o, call_v, call_o, call_t, callk_v, blt_v, blt_o, comp_v, comp_o, compIf_v, compIf_o, dict0_v, dict1_v, src_eq, rng1_v, zip_v, chain_t, as_nl, as_cs, ds_nl, ds_cs, os_nl, os_cs, vs_nl, vs_cs, es_nl, es_cs, bv_1, bv_2, bt_1, bt_2, s_nil, s_cons, s_set, s_setLc, s_par, s_unp, s_ite, s_loop, s_frz, s_app, rt_non, rt_bl, rt_int, rt_str, rt_glb, rt_tup, rt_lst, rt_bin, rt_cmp, rt_chain, rt_isN, rt_not, rt_bop, rt_ife, rt_idx, rt_slA, rt_slB, rt_call, rt_callk, rt_blt, rt_comp, rt_compIf, rt_isi, gR_s, rt_var, DV.dat, DV.fz, List.getElem?_cons_zero, List.getElem?_cons_succ, List.set_cons_zero, List.set_cons_succ, Option.map_some, Option.map_none, Option.bind_some, Option.bind_none, List.any_cons, List.any_nil, Bool.or_false, Bool.false_or, Bool.or_true, Bool.true_or, Bool.not_true, Bool.not_false, isTy, bltD, blt1, blt2, truthD, intD, setAll, setMany, slAB_v, slAB_o, kSlAB_a, kSlAB0_a, kSlAB1_a, kSlAB2_a, neg_v, neg_o, kNeg_i, notN_t, not_v, s_aug, kAug_a, s_whil, s_brk, s_cont, s_retN, s_popAt, callk_o, kCallk_a, kCallk2_a, dkey_i, dkey_s, kDict_a, kDictU_a, kDict2_d, e, eqD ne hb.nice (by omega)]
theorem pair (m n : Nat) (a b : PyData) (k : OD) (hm : m ≤ 9) (hn : 2 * m + 2 ≤ n) (ha : Kd m a) (hb : Kd m b) : callD Pg n 17 [.d a, .d b] k = some (.d (.bool true), k) := by
  obtain ⟨n, rfl⟩ : ∃ m, n = m + 1 := ⟨n - 1, by omega⟩
  show endOf (evSs (CX n) b17 [some (.d a), some (.d b), none, none, none, none] k) = _
  have e1 := joined_ok m n a b k (by omega) (by omega) ha hb
  have e2 := join_ok m n a b k (by omega) (by omega) ha hb
  have e3 := join_ok m n b a k (by omega) (by omega) hb ha
  have f1 := fit_ok m n a b k (by omega) (by omega) ha hb
  have f2 := fit_ok m n b a k (by omega) (by omega) hb ha
  rw [J_comm hb ha] at e3 f2
  obtain ⟨on, os⟩ := Kd.oz (o := J m a b) ha.pos fun d hd => J_kd ha hb hd
  have mono : fS m ≤ fS 9 := by
    have mono : ∀ k, fS m ≤ fS (m + k) := fun k => by
      induction k with
      | zero => exact Nat.le_refl _
      | succ k ih => exact Nat.le_trans ih (by show fS (m + k) ≤ 4 * fS (m + k) + 40; omega)
    have := mono (9 - m)
    rwa [show m + (9 - m) = 9 by omega] at this
  have f9 : fS 9 ≤ 5000000 := by decide +kernel
  have ad : ∀ o : Option PyData, binD .Add (.list (lst1 o)) (.list [.none]) = some (.own (lst1 o ++ [.none])) := fun o => lstAdd (by cases o <;> simp [lst1])
  have ix : ∀ o : Option PyData, idxV (.list (lst1 o ++ [.none])) (.int 0) = some (.d (oD o)) := fun o => by cases o <;> rfl
  have rp : repB (.tuple [a, b]) = some (.d (.str (PyData.shown (.tuple [a, b])))) := rep_d (repOk_of (Szs.cons ha.sz (Szs.cons hb.sz (szs_nil 0 _))).tup (by omega) (by omega))
  have r3 : repB (.list [oD (J m a b), oD (J m a b), oD (J m a b)]) = some (.d (.str (PyData.shown (.list [oD (J m a b), oD (J m a b), oD (J m a b)])))) := rep_d (repOk_of (Szs.cons os (Szs.cons os (Szs.cons os (szs_nil 0 _)))).lst (by omega) (by omega))
  have m3 : binD .Mult (.list [oD (J m a b)]) (.int 3) = some (.own [oD (J m a b), oD (J m a b), oD (J m a b)]) := lstMul (xs := [oD (J m a b)]) (k := 3) (by decide) (by simp)
  unfold b17
  simp only [bO_some, bO_none, lO_some, lO_none, iB_t, iB_f, thn_nx, thn_rt, thn_bk, thn_ct, endOf_rt, endOf_nx, kLift_a, kOk_a, kO2_a, kIte_t, kIte_f, kIfe_t, kIfe_f, kCall_a, kArgs_a, kArgs2_a, kVals_a, kVals2_a, kOpd_a, kOpd2_a, kDat_a, kDat2_a, kBV_a, kBV2_tt, kBV2_ff, kBV2_tf, kBV2_ft, kBT_tt, kBT_ff, kBT_tf, kBT_ft, kComp_a, kSrc_a, kChain_a, kChain2_a, kChain3_t, kChain3_f, kSet_a, kPar_a, kUnp_a, kFor_a, gV_d, gV_dk, gO_d, gO_o, var_v, var_o, var_t, oV_d, oV_own, tV_d, tV_own, vB_s, oB_s, non_v, non_o, bl_v, bl_o, bl_t, int_v, int_o, str_v, str_o, glb_v, glb_o, tup_v, tup_o, lst_v, lst_o, bin_v, bin_o, bin_t, cmp_t, cmp_v, cmp_o, isN_t, isN_v, isi_t, isi_v, not_t, bop_v, bop_o, bop_t, ife_v, ife_o, idx_v, idx_o, slA_v, slA_o, slB_v, slB_o, call_v, call_o, call_t, callk_v, blt_v, blt_o, comp_v, comp_o, compIf_v, compIf_o, dict0_v, dict1_v, src_eq, rng1_v, zip_v, chain_t, as_nl, as_cs, ds_nl, ds_cs, os_nl, os_cs, vs_nl, vs_cs, es_nl, es_cs, bv_1, bv_2, bt_1, bt_2, s_nil, s_cons, s_set, s_setLc, s_par, s_unp, s_ite, s_loop, s_frz, s_app, rt_non, rt_bl, rt_int, rt_str, rt_glb, rt_tup, rt_lst, rt_bin, rt_cmp, rt_chain, rt_isN, rt_not, rt_bop, rt_ife, rt_idx, rt_slA, rt_slB, rt_call, rt_callk, rt_blt, rt_comp, rt_compIf, rt_isi, gR_s, rt_var, DV.dat, DV.fz, List.getElem?_cons_zero, List.getElem?_cons_succ, List.set_cons_zero, List.set_cons_succ, Option.map_some, Option.map_none, Option.bind_some, Option.bind_none, List.any_cons, List.any_nil, Bool.or_false, Bool.false_or, Bool.or_true, Bool.true_or, Bool.not_true, Bool.not_false, isTy, bltD, blt1, blt2, truthD, intD, setAll, setMany, slAB_v, slAB_o, kSlAB_a, kSlAB0_a, kSlAB1_a, kSlAB2_a, neg_v, neg_o, kNeg_i, notN_t, not_v, s_aug, kAug_a, s_whil, s_brk, s_cont, s_retN, s_popAt, callk_o, kCallk_a, kCallk2_a, dkey_i, dkey_s, kDict_a, kDictU_a, kDict2_d, e1, ad, ix, rp, e2, e3, kw1, pm1, r3, m3, neS, beq_str, f1, f2, kw2, eqD on ha.nice (by omega), eqD on hb.nice (by omega), rep_d bools, eqS]
/-! ### three looser kinds -/
theorem for_nx {tg : Tg} {b : Cs} {x : PyData} {xs : List PyData} {ρ ρ1 ρ2 : TA.Env} {k k2 : OD} (h1 : setTg tg x ρ = some ρ1) (h2 : b ρ1 k = some (.nx ρ2, k2)) : forL tg b (x :: xs) ρ k = forL tg b xs ρ2 k2 := by
  rw [forL]; simp only [h1, h2]
theorem three (n : Nat) (o a b c : PyData) (k : OD) (m : Nat) (hm : m ≤ 20) (hn : 2 * m + 2 ≤ n) (ho : Kd m o) (ha : Lo m o a) (hb : Lo m o b) (hc : Lo m o c) : callD Pg n 18 [.d (.list [a, b, c])] k = some (.d (.bool true), k) := by
  obtain ⟨n, rfl⟩ : ∃ m, n = m + 1 := ⟨n - 1, by omega⟩
  show endOf (evSs (CX n) b18 [some (.d (.list [a, b, c])), none, none, none, none] k) = _
  obtain ⟨ab, bc, ca, r, h1, h2, h3, h4, h5, h6, k1, k2, k3, k4⟩ := rots ho ha hb hc
  have ka := ha.kd ho
  have kb := hb.kd ho
  have kc := hc.kd ho
  have g : ∀ x y z, Kd m x → Kd m y → J m x y = some z → callD Pg n 2 [.d x, .d y] k = some (.d z, k) := fun x y z hx hy e => by
    have := join_ok m n x y k hm (by omega) hx hy
    rw [e] at this
    exact this
  have j1 := g a b ab ka kb h1
  have j2 := g b c bc kb kc h2
  have j3 := g c a ca kc ka h3
  have j4 := g ab c r k1 kc h4
  have j5 := g bc a r k2 ka h5
  have j6 := g ca b r k3 kb h6
  have x0 : idxV (.list [a, b, c]) (.int 0) = some (.d a) := rfl
  have x1 : idxV (.list [a, b, c]) (.int 1) = some (.d b) := rfl
  have x2 : idxV (.list [a, b, c]) (.int 2) = some (.d c) := rfl
  have rr : cmpD .NotEq r r = some false := by rw [neD k4.nice k4.nice (by omega), eqv_refl k4]; rfl
  have t1 : ∀ x, evSs (CX n) b18_0 [some (.d (.list [a, b, c])), some (.d (.int 0)), some (.d (.int 1)), some (.d (.int 2)), x] k = some (.nx [some (.d (.list [a, b, c])), some (.d (.int 0)), some (.d (.int 1)), some (.d (.int 2)), some (.d r)], k) := fun x => by
    unfold b18_0
    simp only [bO_some, bO_none, lO_some, lO_none, iB_t, iB_f, thn_nx, thn_rt, thn_bk, thn_ct, endOf_rt, endOf_nx, kLift_a, kOk_a, kO2_a, kIte_t, kIte_f, kIfe_t, kIfe_f, kCall_a, kArgs_a, kArgs2_a, kVals_a, kVals2_a, kOpd_a, kOpd2_a, kDat_a, kDat2_a, kBV_a, kBV2_tt, kBV2_ff, kBV2_tf, kBV2_ft, kBT_tt, kBT_ff, kBT_tf, kBT_ft, kComp_a, kSrc_a, kChain_a, kChain2_a, kChain3_t, kChain3_f, kSet_a, kPar_a, kUnp_a, kFor_a, gV_d, gV_dk, gO_d, gO_o, var_v, var_o, var_t, oV_d, oV_own, tV_d, tV_own, vB_s, oB_s, non_v, non_o, bl_v, bl_o, bl_t, int_v, int_o, str_v, str_o, glb_v, glb_o, tup_v, tup_o, lst_v, lst_o, bin_v, bin_o, bin_t, cmp_t, cmp_v, cmp_o, isN_t, isN_v, isi_t, isi_v, not_t, bop_v, bop_o, bop_t, ife_v, ife_o, idx_v, idx_o, slA_v, slA_o, slB_v, slB_o, call_v, call_o, call_t, callk_v, blt_v, blt_o, comp_v, comp_o, compIf_v, compIf_o, dict0_v, dict1_v, src_eq, rng1_v, zip_v, chain_t, as_nl, as_cs, ds_nl, ds_cs, os_nl, os_cs, vs_nl, vs_cs, es_nl, es_cs, bv_1, bv_2, bt_1, bt_2, s_nil, s_cons, s_set, s_setLc, s_par, s_unp, s_ite, s_loop, s_frz, s_app, rt_non, rt_bl, rt_int, rt_str, rt_glb, rt_tup, rt_lst, rt_bin, rt_cmp, rt_chain, rt_isN, rt_not, rt_bop, rt_ife, rt_idx, rt_slA, rt_slB, rt_call, rt_callk, rt_blt, rt_comp, rt_compIf, rt_isi, gR_s, rt_var, DV.dat, DV.fz, List.getElem?_cons_zero, List.getElem?_cons_succ, List.set_cons_zero, List.set_cons_succ, Option.map_some, Option.map_none, Option.bind_some, Option.bind_none, List.any_cons, List.any_nil, Bool.or_false, Bool.false_or, Bool.or_true, Bool.true_or, Bool.not_true, Bool.not_false, isTy, bltD, blt1, blt2, truthD, intD, setAll, setMany, slAB_v, slAB_o, kSlAB_a, kSlAB0_a, kSlAB1_a, kSlAB2_a, neg_v, neg_o, kNeg_i, notN_t, not_v, s_aug, kAug_a, s_whil, s_brk, s_cont, s_retN, s_popAt, callk_o, kCallk_a, kCallk2_a, dkey_i, dkey_s, kDict_a, kDictU_a, kDict2_d, x0, x1, x2, j1, j4, k4.notNone, rr]
  have t2 : ∀ x, evSs (CX n) b18_0 [some (.d (.list [a, b, c])), some (.d (.int 1)), some (.d (.int 2)), some (.d (.int 0)), x] k = some (.nx [some (.d (.list [a, b, c])), some (.d (.int 1)), some (.d (.int 2)), some (.d (.int 0)), some (.d r)], k) := fun x => by
    unfold b18_0
    simp only [bO_some, bO_none, lO_some, lO_none, iB_t, iB_f, thn_nx, thn_rt, thn_bk, thn_ct, endOf_rt, endOf_nx, kLift_a, kOk_a, kO2_a, kIte_t, kIte_f, kIfe_t, kIfe_f, kCall_a, kArgs_a, kArgs2_a, kVals_a, kVals2_a, kOpd_a, kOpd2_a, kDat_a, kDat2_a, kBV_a, kBV2_tt, kBV2_ff, kBV2_tf, kBV2_ft, kBT_tt, kBT_ff, kBT_tf, kBT_ft, kComp_a, kSrc_a, kChain_a, kChain2_a, kChain3_t, kChain3_f, kSet_a, kPar_a, kUnp_a, kFor_a, gV_d, gV_dk, gO_d, gO_o, var_v, var_o, var_t, oV_d, oV_own, tV_d, tV_own, vB_s, oB_s, non_v, non_o, bl_v, bl_o, bl_t, int_v, int_o, str_v, str_o, glb_v, glb_o, tup_v, tup_o, lst_v, lst_o, bin_v, bin_o, bin_t, cmp_t, cmp_v, cmp_o, isN_t, isN_v, isi_t, isi_v, not_t, bop_v, bop_o, bop_t, ife_v, ife_o, idx_v, idx_o, slA_v, slA_o, slB_v, slB_o, call_v, call_o, call_t, callk_v, blt_v, blt_o, comp_v, comp_o, compIf_v, compIf_o, dict0_v, dict1_v, src_eq, rng1_v, zip_v, chain_t, as_nl, as_cs, ds_nl, ds_cs, os_nl, os_cs, vs_nl, vs_cs, es_nl, es_cs, bv_1, bv_2, bt_1, bt_2, s_nil, s_cons, s_set, s_setLc, s_par, s_unp, s_ite, s_loop, s_frz, s_app, rt_non, rt_bl, rt_int, rt_str, rt_glb, rt_tup, rt_lst, rt_bin, rt_cmp, rt_chain, rt_isN, rt_not, rt_bop, rt_ife, rt_idx, rt_slA, rt_slB, rt_call, rt_callk, rt_blt, rt_comp, rt_compIf, rt_isi, gR_s, rt_var, DV.dat, DV.fz, List.getElem?_cons_zero, List.getElem?_cons_succ, List.set_cons_zero, List.set_cons_succ, Option.map_some, Option.map_none, Option.bind_some, Option.bind_none, List.any_cons, List.any_nil, Bool.or_false, Bool.false_or, Bool.or_true, Bool.true_or, Bool.not_true, Bool.not_false, isTy, bltD, blt1, blt2, truthD, intD, setAll, setMany, slAB_v, slAB_o, kSlAB_a, kSlAB0_a, kSlAB1_a, kSlAB2_a, neg_v, neg_o, kNeg_i, notN_t, not_v, s_aug, kAug_a, s_whil, s_brk, s_cont, s_retN, s_popAt, callk_o, kCallk_a, kCallk2_a, dkey_i, dkey_s, kDict_a, kDictU_a, kDict2_d, x0, x1, x2, j1, j2, j4, j5, k4.notNone, rr]
  have t3 : ∀ x, evSs (CX n) b18_0 [some (.d (.list [a, b, c])), some (.d (.int 2)), some (.d (.int 0)), some (.d (.int 1)), x] k = some (.nx [some (.d (.list [a, b, c])), some (.d (.int 2)), some (.d (.int 0)), some (.d (.int 1)), some (.d r)], k) := fun x => by
    unfold b18_0
    simp only [bO_some, bO_none, lO_some, lO_none, iB_t, iB_f, thn_nx, thn_rt, thn_bk, thn_ct, endOf_rt, endOf_nx, kLift_a, kOk_a, kO2_a, kIte_t, kIte_f, kIfe_t, kIfe_f, kCall_a, kArgs_a, kArgs2_a, kVals_a, kVals2_a, kOpd_a, kOpd2_a, kDat_a, kDat2_a, kBV_a, kBV2_tt, kBV2_ff, kBV2_tf, kBV2_ft, kBT_tt, kBT_ff, kBT_tf, kBT_ft, kComp_a, kSrc_a, kChain_a, kChain2_a, kChain3_t, kChain3_f, kSet_a, kPar_a, kUnp_a, kFor_a, gV_d, gV_dk, gO_d, gO_o, var_v, var_o, var_t, oV_d, oV_own, tV_d, tV_own, vB_s, oB_s, non_v, non_o, bl_v, bl_o, bl_t, int_v, int_o, str_v, str_o, glb_v, glb_o, tup_v, tup_o, lst_v, lst_o, bin_v, bin_o, bin_t, cmp_t, cmp_v, cmp_o, isN_t, isN_v, isi_t, isi_v, not_t, bop_v, bop_o, bop_t, ife_v, ife_o, idx_v, idx_o, slA_v, slA_o, slB_v, slB_o, call_v, call_o, call_t, callk_v, blt_v, blt_o, comp_v, comp_o, compIf_v, compIf_o, dict0_v, dict1_v, src_eq, rng1_v, zip_v, chain_t, as_nl, as_cs, ds_nl, ds_cs, os_nl, os_cs, vs_nl, vs_cs, es_nl, es_cs, bv_1, bv_2, bt_1, bt_2, s_nil, s_cons, s_set, s_setLc, s_par, s_unp, s_ite, s_loop, s_frz, s_app, rt_non, rt_bl, rt_int, rt_str, rt_glb, rt_tup, rt_lst, rt_bin, rt_cmp, rt_chain, rt_isN, rt_not, rt_bop, rt_ife, rt_idx, rt_slA, rt_slB, rt_call, rt_callk, rt_blt, rt_comp, rt_compIf, rt_isi, gR_s, rt_var, DV.dat, DV.fz, List.getElem?_cons_zero, List.getElem?_cons_succ, List.set_cons_zero, List.set_cons_succ, Option.map_some, Option.map_none, Option.bind_some, Option.bind_none, List.any_cons, List.any_nil, Bool.or_false, Bool.false_or, Bool.or_true, Bool.true_or, Bool.not_true, Bool.not_false, isTy, bltD, blt1, blt2, truthD, intD, setAll, setMany, slAB_v, slAB_o, kSlAB_a, kSlAB0_a, kSlAB1_a, kSlAB2_a, neg_v, neg_o, kNeg_i, notN_t, not_v, s_aug, kAug_a, s_whil, s_brk, s_cont, s_retN, s_popAt, callk_o, kCallk_a, kCallk2_a, dkey_i, dkey_s, kDict_a, kDictU_a, kDict2_d, x0, x1, x2, j1, j3, j4, j6, k4.notNone, rr]
  have s3 : srcL [.tuple [.int 0, .int 1, .int 2], .tuple [.int 1, .int 2, .int 0], .tuple [.int 2, .int 0, .int 1]] = some [.tuple [.int 0, .int 1, .int 2], .tuple [.int 1, .int 2, .int 0], .tuple [.int 2, .int 0, .int 1]] := srcL_ok (by decide)
  unfold b18
  simp only [bO_some, bO_none, lO_some, lO_none, iB_t, iB_f, thn_nx, thn_rt, thn_bk, thn_ct, endOf_rt, endOf_nx, kLift_a, kOk_a, kO2_a, kIte_t, kIte_f, kIfe_t, kIfe_f, kCall_a, kArgs_a, kArgs2_a, kVals_a, kVals2_a, kOpd_a, kOpd2_a, kDat_a, kDat2_a, kBV_a, kBV2_tt, kBV2_ff, kBV2_tf, kBV2_ft, kBT_tt, kBT_ff, kBT_tf, kBT_ft, kComp_a, kSrc_a, kChain_a, kChain2_a, kChain3_t, kChain3_f, kSet_a, kPar_a, kUnp_a, kFor_a, gV_d, gV_dk, gO_d, gO_o, var_v, var_o, var_t, oV_d, oV_own, tV_d, tV_own, vB_s, oB_s, non_v, non_o, bl_v, bl_o, bl_t, int_v, int_o, str_v, str_o, glb_v, glb_o, tup_v, tup_o, lst_v, lst_o, bin_v, bin_o, bin_t, cmp_t, cmp_v, cmp_o, isN_t, isN_v, isi_t, isi_v, not_t, bop_v, bop_o, bop_t, ife_v, ife_o, idx_v, idx_o, slA_v, slA_o, slB_v, slB_o, call_v, call_o, call_t, callk_v, blt_v, blt_o, comp_v, comp_o, compIf_v, compIf_o, dict0_v, dict1_v, src_eq, rng1_v, zip_v, chain_t, as_nl, as_cs, ds_nl, ds_cs, os_nl, os_cs, vs_nl, vs_cs, es_nl, es_cs, bv_1, bv_2, bt_1, bt_2, s_nil, s_cons, s_set, s_setLc, s_par, s_unp, s_ite, s_loop, s_frz, s_app, rt_non, rt_bl, rt_int, rt_str, rt_glb, rt_tup, rt_lst, rt_bin, rt_cmp, rt_chain, rt_isN, rt_not, rt_bop, rt_ife, rt_idx, rt_slA, rt_slB, rt_call, rt_callk, rt_blt, rt_comp, rt_compIf, rt_isi, gR_s, rt_var, DV.dat, DV.fz, List.getElem?_cons_zero, List.getElem?_cons_succ, List.set_cons_zero, List.set_cons_succ, Option.map_some, Option.map_none, Option.bind_some, Option.bind_none, List.any_cons, List.any_nil, Bool.or_false, Bool.false_or, Bool.or_true, Bool.true_or, Bool.not_true, Bool.not_false, isTy, bltD, blt1, blt2, truthD, intD, setAll, setMany, slAB_v, slAB_o, kSlAB_a, kSlAB0_a, kSlAB1_a, kSlAB2_a, neg_v, neg_o, kNeg_i, notN_t, not_v, s_aug, kAug_a, s_whil, s_brk, s_cont, s_retN, s_popAt, callk_o, kCallk_a, kCallk2_a, dkey_i, dkey_s, kDict_a, kDictU_a, kDict2_d, itemsD, s3]
  rw [for_nx (ρ1 := [some (.d (.list [a, b, c])), some (.d (.int 0)), some (.d (.int 1)), some (.d (.int 2)), none]) rfl (t1 _), for_nx (ρ1 := [some (.d (.list [a, b, c])), some (.d (.int 1)), some (.d (.int 2)), some (.d (.int 0)), some (.d r)]) rfl (t2 _), for_nx (ρ1 := [some (.d (.list [a, b, c])), some (.d (.int 2)), some (.d (.int 0)), some (.d (.int 1)), some (.d r)]) rfl (t3 _)]
  simp only [forL, bO_some, bO_none, lO_some, lO_none, iB_t, iB_f, thn_nx, thn_rt, thn_bk, thn_ct, endOf_rt, endOf_nx, kLift_a, kOk_a, kO2_a, kIte_t, kIte_f, kIfe_t, kIfe_f, kCall_a, kArgs_a, kArgs2_a, kVals_a, kVals2_a, kOpd_a, kOpd2_a, kDat_a, kDat2_a, kBV_a, kBV2_tt, kBV2_ff, kBV2_tf, kBV2_ft, kBT_tt, kBT_ff, kBT_tf, kBT_ft, kComp_a, kSrc_a, kChain_a, kChain2_a, kChain3_t, kChain3_f, kSet_a, kPar_a, kUnp_a, kFor_a, gV_d, gV_dk, gO_d, gO_o, var_v, var_o, var_t, oV_d, oV_own, tV_d, tV_own, vB_s, oB_s, non_v, non_o, bl_v, bl_o, bl_t, int_v, int_o, str_v, str_o, glb_v, glb_o, tup_v, tup_o, lst_v, lst_o, bin_v, bin_o, bin_t, cmp_t, cmp_v, cmp_o, isN_t, isN_v, isi_t, isi_v, not_t, bop_v, bop_o, bop_t, ife_v, ife_o, idx_v, idx_o, slA_v, slA_o, slB_v, slB_o, call_v, call_o, call_t, callk_v, blt_v, blt_o, comp_v, comp_o, compIf_v, compIf_o, dict0_v, dict1_v, src_eq, rng1_v, zip_v, chain_t, as_nl, as_cs, ds_nl, ds_cs, os_nl, os_cs, vs_nl, vs_cs, es_nl, es_cs, bv_1, bv_2, bt_1, bt_2, s_nil, s_cons, s_set, s_setLc, s_par, s_unp, s_ite, s_loop, s_frz, s_app, rt_non, rt_bl, rt_int, rt_str, rt_glb, rt_tup, rt_lst, rt_bin, rt_cmp, rt_chain, rt_isN, rt_not, rt_bop, rt_ife, rt_idx, rt_slA, rt_slB, rt_call, rt_callk, rt_blt, rt_comp, rt_compIf, rt_isi, gR_s, rt_var, DV.dat, DV.fz, List.getElem?_cons_zero, List.getElem?_cons_succ, List.set_cons_zero, List.set_cons_succ, Option.map_some, Option.map_none, Option.bind_some, Option.bind_none, List.any_cons, List.any_nil, Bool.or_false, Bool.false_or, Bool.or_true, Bool.true_or, Bool.not_true, Bool.not_false, isTy, bltD, blt1, blt2, truthD, intD, setAll, setMany, slAB_v, slAB_o, kSlAB_a, kSlAB0_a, kSlAB1_a, kSlAB2_a, neg_v, neg_o, kNeg_i, notN_t, not_v, s_aug, kAug_a, s_whil, s_brk, s_cont, s_retN, s_popAt, callk_o, kCallk_a, kCallk2_a, dkey_i, dkey_s, kDict_a, kDictU_a, kDict2_d]
end K06

set_option maxHeartbeats 4000000
/-! k06: the law's run. -/
namespace K06
open PySem TA TM
theorem comp_none {tg : Nat} {e : Cm DV} {c : Cm Bool} {ρ : TA.Env} {k : OD} : ∀ (xs : List PyData), (∀ x ∈ xs, c ((wipeE ρ [tg]).set tg (some (.d x))) k = some (false, k)) → compL (.one tg) e c xs ρ k = some ([], k)
  | [], _ => rfl
  | x :: xs, h => by
    rw [compL]
    simp only [setTg, Tg.slots]
    rw [h x List.mem_cons_self]
    exact comp_none xs fun y hy => h y (List.mem_cons_of_mem _ hy)
theorem eqII {a b : Int} : cmpD .Eq (.int a) (.int b) = some (decide (a = b)) := by
  simp [cmpD, SeqAt.shaped, PyData.canLay0, PyData.depth, PyData.eqv]
  rfl
theorem neNN : cmpD .NotEq (.list []) (.list []) = some false := rfl
theorem rng12 : rngV (.int 12) = some (.d (.list (rngL 0 12))) := rngV_ok (n := 12) (by decide)
theorem rng3 : rngV (.int 3) = some (.d (.list (rngL 0 3))) := rngV_ok (n := 3) (by decide)
theorem rng6 : rngV (.int 6) = some (.d (.list (rngL 0 6))) := rngV_ok (n := 6) (by decide)
theorem list3 {ds : List PyData} (h : ds.length = 3) : ∃ a b c, ds = [a, b, c] := by
  match ds, h with
  | [a, b, c], _ => exact ⟨a, b, c, rfl⟩
theorem repC (n : Nat) (hn : 10 ≤ n) {ρ : TA.Env} {k : OD} {x : PyData} (hx : ρ[2]? = some (some (.d x))) (h : repOk x = true) : (evA (CX n) (.not (.call 16 (.cons (.var 2) .nil)))).t ρ k = some (false, k) := by
  simp only [bO_some, bO_none, lO_some, lO_none, iB_t, iB_f, thn_nx, thn_rt, thn_bk, thn_ct, endOf_rt, endOf_nx, kLift_a, kOk_a, kO2_a, kIte_t, kIte_f, kIfe_t, kIfe_f, kCall_a, kArgs_a, kArgs2_a, kVals_a, kVals2_a, kOpd_a, kOpd2_a, kDat_a, kDat2_a, kBV_a, kBV2_tt, kBV2_ff, kBV2_tf, kBV2_ft, kBT_tt, kBT_ff, kBT_tf, kBT_ft, kComp_a, kSrc_a, kChain_a, kChain2_a, kChain3_t, kChain3_f, kSet_a, kPar_a, kUnp_a, kFor_a, gV_d, gV_dk, gO_d, gO_o, var_v, var_o, var_t, oV_d, oV_own, tV_d, tV_own, vB_s, oB_s, non_v, non_o, bl_v, bl_o, bl_t, int_v, int_o, str_v, str_o, glb_v, glb_o, tup_v, tup_o, lst_v, lst_o, bin_v, bin_o, bin_t, cmp_t, cmp_v, cmp_o, isN_t, isN_v, isi_t, isi_v, not_t, bop_v, bop_o, bop_t, ife_v, ife_o, idx_v, idx_o, slA_v, slA_o, slB_v, slB_o, call_v, call_o, call_t, callk_v, blt_v, blt_o, comp_v, comp_o, compIf_v, compIf_o, dict0_v, dict1_v, src_eq, rng1_v, zip_v, chain_t, as_nl, as_cs, ds_nl, ds_cs, os_nl, os_cs, vs_nl, vs_cs, es_nl, es_cs, bv_1, bv_2, bt_1, bt_2, s_nil, s_cons, s_set, s_setLc, s_par, s_unp, s_ite, s_loop, s_frz, s_app, rt_non, rt_bl, rt_int, rt_str, rt_glb, rt_tup, rt_lst, rt_bin, rt_cmp, rt_chain, rt_isN, rt_not, rt_bop, rt_ife, rt_idx, rt_slA, rt_slB, rt_call, rt_callk, rt_blt, rt_comp, rt_compIf, rt_isi, gR_s, rt_var, DV.dat, DV.fz, List.getElem?_cons_zero, List.getElem?_cons_succ, List.set_cons_zero, List.set_cons_succ, Option.map_some, Option.map_none, Option.bind_some, Option.bind_none, List.any_cons, List.any_nil, Bool.or_false, Bool.false_or, Bool.or_true, Bool.true_or, Bool.not_true, Bool.not_false, isTy, bltD, blt1, blt2, truthD, intD, setAll, setMany, slAB_v, slAB_o, kSlAB_a, kSlAB0_a, kSlAB1_a, kSlAB2_a, neg_v, neg_o, kNeg_i, notN_t, not_v, s_aug, kAug_a, s_whil, s_brk, s_cont, s_retN, s_popAt, callk_o, kCallk_a, kCallk2_a, dkey_i, dkey_s, kDict_a, kDictU_a, kDict2_d, hx, recog n x k h hn]
structure FarI (n : Nat) (s : PyData) (i own a b c : PyData) (more : PyData) (q : Dk) (xs : List PyData) (ρ : TA.Env) (k : OD) : Prop where
  ex : ∃ x2 x6 x8, ρ = [some (.d s), some .dk, x2, some (.d i), some (.d own), some (.d (.list [a, b, c])), x6, some (.d more), x8] ∧ k = some q ∧ ∀ x ∈ xs, Kd 9 x
theorem farLoop (n : Nat) (hn : 30 ≤ n) (s i own a b c more : PyData) (q : Dk) (xs : List PyData) (x2 x6 x8 : Option DV) (ho : Kd 9 own) (hb : Kd 9 b) (hx : ∀ x ∈ xs, Kd 9 x) {Q : Fl → OD → Prop}
    (hQ : ∀ x2 x6 x8, Q (.nx [some (.d s), some .dk, x2, some (.d i), some (.d own), some (.d (.list [a, b, c])), x6, some (.d more), x8]) (some q)) :
    Wp (forL (.one 8) (evSs (CX n) b20_10) xs [some (.d s), some .dk, x2, some (.d i), some (.d own), some (.d (.list [a, b, c])), x6, some (.d more), x8] (some q)) Q := by
  refine wp_for (FarI n s i own a b c more q) _ _ _ _ ⟨x2, x6, x8, rfl, rfl, hx⟩ (fun y ys ρ k hI => ?_) fun ρ k hI => ?_
  · obtain ⟨x2, x6, x8, rfl, rfl, h1⟩ := hI.ex
    refine ⟨_, rfl, ?_⟩
    have ky := h1 y List.mem_cons_self
    have p1 := pair 9 n own y (some q) (by decide) (by omega) ho ky
    have p2 := pair 9 n b y (some q) (by decide) (by omega) hb ky
    have x1 : idxV (.list [a, b, c]) (.int 1) = some (.d b) := rfl
    simp only [b20_10, bO_some, bO_none, lO_some, lO_none, iB_t, iB_f, thn_nx, thn_rt, thn_bk, thn_ct, endOf_rt, endOf_nx, kLift_a, kOk_a, kO2_a, kIte_t, kIte_f, kIfe_t, kIfe_f, kCall_a, kArgs_a, kArgs2_a, kVals_a, kVals2_a, kOpd_a, kOpd2_a, kDat_a, kDat2_a, kBV_a, kBV2_tt, kBV2_ff, kBV2_tf, kBV2_ft, kBT_tt, kBT_ff, kBT_tf, kBT_ft, kComp_a, kSrc_a, kChain_a, kChain2_a, kChain3_t, kChain3_f, kSet_a, kPar_a, kUnp_a, kFor_a, gV_d, gV_dk, gO_d, gO_o, var_v, var_o, var_t, oV_d, oV_own, tV_d, tV_own, vB_s, oB_s, non_v, non_o, bl_v, bl_o, bl_t, int_v, int_o, str_v, str_o, glb_v, glb_o, tup_v, tup_o, lst_v, lst_o, bin_v, bin_o, bin_t, cmp_t, cmp_v, cmp_o, isN_t, isN_v, isi_t, isi_v, not_t, bop_v, bop_o, bop_t, ife_v, ife_o, idx_v, idx_o, slA_v, slA_o, slB_v, slB_o, call_v, call_o, call_t, callk_v, blt_v, blt_o, comp_v, comp_o, compIf_v, compIf_o, dict0_v, dict1_v, src_eq, rng1_v, zip_v, chain_t, as_nl, as_cs, ds_nl, ds_cs, os_nl, os_cs, vs_nl, vs_cs, es_nl, es_cs, bv_1, bv_2, bt_1, bt_2, s_nil, s_cons, s_set, s_setLc, s_par, s_unp, s_ite, s_loop, s_frz, s_app, rt_non, rt_bl, rt_int, rt_str, rt_glb, rt_tup, rt_lst, rt_bin, rt_cmp, rt_chain, rt_isN, rt_not, rt_bop, rt_ife, rt_idx, rt_slA, rt_slB, rt_call, rt_callk, rt_blt, rt_comp, rt_compIf, rt_isi, gR_s, rt_var, DV.dat, DV.fz, List.getElem?_cons_zero, List.getElem?_cons_succ, List.set_cons_zero, List.set_cons_succ, Option.map_some, Option.map_none, Option.bind_some, Option.bind_none, List.any_cons, List.any_nil, Bool.or_false, Bool.false_or, Bool.or_true, Bool.true_or, Bool.not_true, Bool.not_false, isTy, bltD, blt1, blt2, truthD, intD, setAll, setMany, slAB_v, slAB_o, kSlAB_a, kSlAB0_a, kSlAB1_a, kSlAB2_a, neg_v, neg_o, kNeg_i, notN_t, not_v, s_aug, kAug_a, s_whil, s_brk, s_cont, s_retN, s_popAt, callk_o, kCallk_a, kCallk2_a, dkey_i, dkey_s, kDict_a, kDictU_a, kDict2_d, wp_some, wp_bO, wp_thn, wp_endOf, wp_oV, wp_tV, wp_vB, wp_oB, kW_a, kT_a, kE_a, kOV_a, kTV_a, kVB_a, kOB_a, p1, p2, x1, List.set]
    exact ⟨_, _, _, rfl, rfl, fun x hx => h1 x (List.mem_cons_of_mem _ hx)⟩
  · obtain ⟨x2, x6, x8, rfl, rfl, h1⟩ := hI.ex
    exact hQ x2 x6 x8
def BT : Int := 2000000
structure TurnI (s : PyData) (xs : List PyData) (ρ : TA.Env) (k : OD) : Prop where
  ex : ∃ x2 x3 x4 x5 x6 x7 x8 q, ρ = [some (.d s), some .dk, x2, x3, x4, x5, x6, x7, x8] ∧ k = some q ∧ DkOk (100 + BT * (12 - xs.length : Nat)) q ∧ xs.length ≤ 12 ∧ ∀ x ∈ xs, ∃ i : Nat, x = .int i ∧ i < 12
theorem turn (n : Nat) (hn : 30 ≤ n) (s : PyData) (i : Nat) (x2 x4 x5 x6 x7 x8 : Option DV) (c : Int) (q : Dk) (hq : DkOk c q) (hc : c + BT < 900000000) {Q : Fl → OD → Prop}
    (hQ : ∀ x2 x3 x4 x5 x6 x7 x8 q', DkOk (c + BT) q' → Q (.nx [some (.d s), some .dk, x2, x3, x4, x5, x6, x7, x8]) (some q')) :
    Wp (evSs (CX n) b20_11 [some (.d s), some .dk, x2, some (.d (.int i)), x4, x5, x6, x7, x8] (some q)) Q := by
  have bk : BK 3 3 = 466560 := by decide
  have bl : BL 7 = 78125 := by decide
  have bc : BC 7 = 1021 := by decide
  have bt : BT = 2000000 := rfl
  unfold b20_11
  simp only [bO_some, bO_none, lO_some, lO_none, iB_t, iB_f, thn_nx, thn_rt, thn_bk, thn_ct, endOf_rt, endOf_nx, kLift_a, kOk_a, kO2_a, kIte_t, kIte_f, kIfe_t, kIfe_f, kCall_a, kArgs_a, kArgs2_a, kVals_a, kVals2_a, kOpd_a, kOpd2_a, kDat_a, kDat2_a, kBV_a, kBV2_tt, kBV2_ff, kBV2_tf, kBV2_ft, kBT_tt, kBT_ff, kBT_tf, kBT_ft, kComp_a, kSrc_a, kChain_a, kChain2_a, kChain3_t, kChain3_f, kSet_a, kPar_a, kUnp_a, kFor_a, gV_d, gV_dk, gO_d, gO_o, var_v, var_o, var_t, oV_d, oV_own, tV_d, tV_own, vB_s, oB_s, non_v, non_o, bl_v, bl_o, bl_t, int_v, int_o, str_v, str_o, glb_v, glb_o, tup_v, tup_o, lst_v, lst_o, bin_v, bin_o, bin_t, cmp_t, cmp_v, cmp_o, isN_t, isN_v, isi_t, isi_v, not_t, bop_v, bop_o, bop_t, ife_v, ife_o, idx_v, idx_o, slA_v, slA_o, slB_v, slB_o, call_v, call_o, call_t, callk_v, blt_v, blt_o, comp_v, comp_o, compIf_v, compIf_o, dict0_v, dict1_v, src_eq, rng1_v, zip_v, chain_t, as_nl, as_cs, ds_nl, ds_cs, os_nl, os_cs, vs_nl, vs_cs, es_nl, es_cs, bv_1, bv_2, bt_1, bt_2, s_nil, s_cons, s_set, s_setLc, s_par, s_unp, s_ite, s_loop, s_frz, s_app, rt_non, rt_bl, rt_int, rt_str, rt_glb, rt_tup, rt_lst, rt_bin, rt_cmp, rt_chain, rt_isN, rt_not, rt_bop, rt_ife, rt_idx, rt_slA, rt_slB, rt_call, rt_callk, rt_blt, rt_comp, rt_compIf, rt_isi, gR_s, rt_var, DV.dat, DV.fz, List.getElem?_cons_zero, List.getElem?_cons_succ, List.set_cons_zero, List.set_cons_succ, Option.map_some, Option.map_none, Option.bind_some, Option.bind_none, List.any_cons, List.any_nil, Bool.or_false, Bool.false_or, Bool.or_true, Bool.true_or, Bool.not_true, Bool.not_false, isTy, bltD, blt1, blt2, truthD, intD, setAll, setMany, slAB_v, slAB_o, kSlAB_a, kSlAB0_a, kSlAB1_a, kSlAB2_a, neg_v, neg_o, kNeg_i, notN_t, not_v, s_aug, kAug_a, s_whil, s_brk, s_cont, s_retN, s_popAt, callk_o, kCallk_a, kCallk2_a, dkey_i, dkey_s, kDict_a, kDictU_a, kDict2_d, wp_some, wp_bO, wp_thn, wp_endOf, wp_oV, wp_tV, wp_vB, wp_oB, kW_a, kT_a, kE_a, kOV_a, kTV_a, kVB_a, kOB_a, modD (show (0 : Int) < 4 by decide), eqII]
  refine Wp.mono (R := fun v k => ∃ own q1, v = .d own ∧ k = some q1 ∧ (∀ m, 6 < m → isK m 3 3 own = true) ∧ DkOk (c + 466560) q1) ?_ fun v k h => ?_
  · cases decide ((i : Int) % 4 = 3) with
    | true =>
      simp only [bO_some, bO_none, lO_some, lO_none, iB_t, iB_f, thn_nx, thn_rt, thn_bk, thn_ct, endOf_rt, endOf_nx, kLift_a, kOk_a, kO2_a, kIte_t, kIte_f, kIfe_t, kIfe_f, kCall_a, kArgs_a, kArgs2_a, kVals_a, kVals2_a, kOpd_a, kOpd2_a, kDat_a, kDat2_a, kBV_a, kBV2_tt, kBV2_ff, kBV2_tf, kBV2_ft, kBT_tt, kBT_ff, kBT_tf, kBT_ft, kComp_a, kSrc_a, kChain_a, kChain2_a, kChain3_t, kChain3_f, kSet_a, kPar_a, kUnp_a, kFor_a, gV_d, gV_dk, gO_d, gO_o, var_v, var_o, var_t, oV_d, oV_own, tV_d, tV_own, vB_s, oB_s, non_v, non_o, bl_v, bl_o, bl_t, int_v, int_o, str_v, str_o, glb_v, glb_o, tup_v, tup_o, lst_v, lst_o, bin_v, bin_o, bin_t, cmp_t, cmp_v, cmp_o, isN_t, isN_v, isi_t, isi_v, not_t, bop_v, bop_o, bop_t, ife_v, ife_o, idx_v, idx_o, slA_v, slA_o, slB_v, slB_o, call_v, call_o, call_t, callk_v, blt_v, blt_o, comp_v, comp_o, compIf_v, compIf_o, dict0_v, dict1_v, src_eq, rng1_v, zip_v, chain_t, as_nl, as_cs, ds_nl, ds_cs, os_nl, os_cs, vs_nl, vs_cs, es_nl, es_cs, bv_1, bv_2, bt_1, bt_2, s_nil, s_cons, s_set, s_setLc, s_par, s_unp, s_ite, s_loop, s_frz, s_app, rt_non, rt_bl, rt_int, rt_str, rt_glb, rt_tup, rt_lst, rt_bin, rt_cmp, rt_chain, rt_isN, rt_not, rt_bop, rt_ife, rt_idx, rt_slA, rt_slB, rt_call, rt_callk, rt_blt, rt_comp, rt_compIf, rt_isi, gR_s, rt_var, DV.dat, DV.fz, List.getElem?_cons_zero, List.getElem?_cons_succ, List.set_cons_zero, List.set_cons_succ, Option.map_some, Option.map_none, Option.bind_some, Option.bind_none, List.any_cons, List.any_nil, Bool.or_false, Bool.false_or, Bool.or_true, Bool.true_or, Bool.not_true, Bool.not_false, isTy, bltD, blt1, blt2, truthD, intD, setAll, setMany, slAB_v, slAB_o, kSlAB_a, kSlAB0_a, kSlAB1_a, kSlAB2_a, neg_v, neg_o, kNeg_i, notN_t, not_v, s_aug, kAug_a, s_whil, s_brk, s_cont, s_retN, s_popAt, callk_o, kCallk_a, kCallk2_a, dkey_i, dkey_s, kDict_a, kDictU_a, kDict2_d, wp_some, wp_bO, wp_thn, wp_endOf, wp_oV, wp_tV, wp_vB, wp_oB, kW_a, kT_a, kE_a, kOV_a, kTV_a, kVB_a, kOB_a]
      obtain ⟨n, rfl⟩ : ∃ m, n = m + 3 := ⟨n - 3, by omega⟩
      exact deep n c q hq (by omega) fun d q' h1 h2 => ⟨d, q', rfl, rfl, h1, h2.mono (by omega)⟩
    | false =>
      simp only [bO_some, bO_none, lO_some, lO_none, iB_t, iB_f, thn_nx, thn_rt, thn_bk, thn_ct, endOf_rt, endOf_nx, kLift_a, kOk_a, kO2_a, kIte_t, kIte_f, kIfe_t, kIfe_f, kCall_a, kArgs_a, kArgs2_a, kVals_a, kVals2_a, kOpd_a, kOpd2_a, kDat_a, kDat2_a, kBV_a, kBV2_tt, kBV2_ff, kBV2_tf, kBV2_ft, kBT_tt, kBT_ff, kBT_tf, kBT_ft, kComp_a, kSrc_a, kChain_a, kChain2_a, kChain3_t, kChain3_f, kSet_a, kPar_a, kUnp_a, kFor_a, gV_d, gV_dk, gO_d, gO_o, var_v, var_o, var_t, oV_d, oV_own, tV_d, tV_own, vB_s, oB_s, non_v, non_o, bl_v, bl_o, bl_t, int_v, int_o, str_v, str_o, glb_v, glb_o, tup_v, tup_o, lst_v, lst_o, bin_v, bin_o, bin_t, cmp_t, cmp_v, cmp_o, isN_t, isN_v, isi_t, isi_v, not_t, bop_v, bop_o, bop_t, ife_v, ife_o, idx_v, idx_o, slA_v, slA_o, slB_v, slB_o, call_v, call_o, call_t, callk_v, blt_v, blt_o, comp_v, comp_o, compIf_v, compIf_o, dict0_v, dict1_v, src_eq, rng1_v, zip_v, chain_t, as_nl, as_cs, ds_nl, ds_cs, os_nl, os_cs, vs_nl, vs_cs, es_nl, es_cs, bv_1, bv_2, bt_1, bt_2, s_nil, s_cons, s_set, s_setLc, s_par, s_unp, s_ite, s_loop, s_frz, s_app, rt_non, rt_bl, rt_int, rt_str, rt_glb, rt_tup, rt_lst, rt_bin, rt_cmp, rt_chain, rt_isN, rt_not, rt_bop, rt_ife, rt_idx, rt_slA, rt_slB, rt_call, rt_callk, rt_blt, rt_comp, rt_compIf, rt_isi, gR_s, rt_var, DV.dat, DV.fz, List.getElem?_cons_zero, List.getElem?_cons_succ, List.set_cons_zero, List.set_cons_succ, Option.map_some, Option.map_none, Option.bind_some, Option.bind_none, List.any_cons, List.any_nil, Bool.or_false, Bool.false_or, Bool.or_true, Bool.true_or, Bool.not_true, Bool.not_false, isTy, bltD, blt1, blt2, truthD, intD, setAll, setMany, slAB_v, slAB_o, kSlAB_a, kSlAB0_a, kSlAB1_a, kSlAB2_a, neg_v, neg_o, kNeg_i, notN_t, not_v, s_aug, kAug_a, s_whil, s_brk, s_cont, s_retN, s_popAt, callk_o, kCallk_a, kCallk2_a, dkey_i, dkey_s, kDict_a, kDictU_a, kDict2_d, wp_some, wp_bO, wp_thn, wp_endOf, wp_oV, wp_tV, wp_vB, wp_oB, kW_a, kT_a, kE_a, kOV_a, kTV_a, kVB_a, kOB_a]
      exact wkind (s := 3) (r := 3) (by omega) hq (by omega) fun d q' h1 h2 => ⟨d, q', rfl, rfl, h1, h2.mono (by omega)⟩
  · obtain ⟨own, q1, rfl, rfl, hk, hq1⟩ := h
    have ko : Kd 7 own := isK_kd (hk 7 (by decide))
    simp only [bO_some, bO_none, lO_some, lO_none, iB_t, iB_f, thn_nx, thn_rt, thn_bk, thn_ct, endOf_rt, endOf_nx, kLift_a, kOk_a, kO2_a, kIte_t, kIte_f, kIfe_t, kIfe_f, kCall_a, kArgs_a, kArgs2_a, kVals_a, kVals2_a, kOpd_a, kOpd2_a, kDat_a, kDat2_a, kBV_a, kBV2_tt, kBV2_ff, kBV2_tf, kBV2_ft, kBT_tt, kBT_ff, kBT_tf, kBT_ft, kComp_a, kSrc_a, kChain_a, kChain2_a, kChain3_t, kChain3_f, kSet_a, kPar_a, kUnp_a, kFor_a, gV_d, gV_dk, gO_d, gO_o, var_v, var_o, var_t, oV_d, oV_own, tV_d, tV_own, vB_s, oB_s, non_v, non_o, bl_v, bl_o, bl_t, int_v, int_o, str_v, str_o, glb_v, glb_o, tup_v, tup_o, lst_v, lst_o, bin_v, bin_o, bin_t, cmp_t, cmp_v, cmp_o, isN_t, isN_v, isi_t, isi_v, not_t, bop_v, bop_o, bop_t, ife_v, ife_o, idx_v, idx_o, slA_v, slA_o, slB_v, slB_o, call_v, call_o, call_t, callk_v, blt_v, blt_o, comp_v, comp_o, compIf_v, compIf_o, dict0_v, dict1_v, src_eq, rng1_v, zip_v, chain_t, as_nl, as_cs, ds_nl, ds_cs, os_nl, os_cs, vs_nl, vs_cs, es_nl, es_cs, bv_1, bv_2, bt_1, bt_2, s_nil, s_cons, s_set, s_setLc, s_par, s_unp, s_ite, s_loop, s_frz, s_app, rt_non, rt_bl, rt_int, rt_str, rt_glb, rt_tup, rt_lst, rt_bin, rt_cmp, rt_chain, rt_isN, rt_not, rt_bop, rt_ife, rt_idx, rt_slA, rt_slB, rt_call, rt_callk, rt_blt, rt_comp, rt_compIf, rt_isi, gR_s, rt_var, DV.dat, DV.fz, List.getElem?_cons_zero, List.getElem?_cons_succ, List.set_cons_zero, List.set_cons_succ, Option.map_some, Option.map_none, Option.bind_some, Option.bind_none, List.any_cons, List.any_nil, Bool.or_false, Bool.false_or, Bool.or_true, Bool.true_or, Bool.not_true, Bool.not_false, isTy, bltD, blt1, blt2, truthD, intD, setAll, setMany, slAB_v, slAB_o, kSlAB_a, kSlAB0_a, kSlAB1_a, kSlAB2_a, neg_v, neg_o, kNeg_i, notN_t, not_v, s_aug, kAug_a, s_whil, s_brk, s_cont, s_retN, s_popAt, callk_o, kCallk_a, kCallk2_a, dkey_i, dkey_s, kDict_a, kDictU_a, kDict2_d, wp_some, wp_bO, wp_thn, wp_endOf, wp_oV, wp_tV, wp_vB, wp_oB, kW_a, kT_a, kE_a, kOV_a, kTV_a, kVB_a, kOB_a, rng3, itemsD, rngSrc (show 3 ≤ 100 by decide)]
    refine wp_comp (fun _ d => Lo 7 own d) (BL 7) (lim := 900000000) (by omega) _ (c + 466560) q1 _ hq1 (by rw [rng_len, bl]; omega) (fun x _ c' q' h1 h2 => ?_) fun ds q2 l1 l2 h2 => ?_
    · obtain ⟨l, q'', g1, g2, g3⟩ := loosen 7 n own c' q' (by omega) ko h1 (by omega)
      simp only [b20_2, bO_some, bO_none, lO_some, lO_none, iB_t, iB_f, thn_nx, thn_rt, thn_bk, thn_ct, endOf_rt, endOf_nx, kLift_a, kOk_a, kO2_a, kIte_t, kIte_f, kIfe_t, kIfe_f, kCall_a, kArgs_a, kArgs2_a, kVals_a, kVals2_a, kOpd_a, kOpd2_a, kDat_a, kDat2_a, kBV_a, kBV2_tt, kBV2_ff, kBV2_tf, kBV2_ft, kBT_tt, kBT_ff, kBT_tf, kBT_ft, kComp_a, kSrc_a, kChain_a, kChain2_a, kChain3_t, kChain3_f, kSet_a, kPar_a, kUnp_a, kFor_a, gV_d, gV_dk, gO_d, gO_o, var_v, var_o, var_t, oV_d, oV_own, tV_d, tV_own, vB_s, oB_s, non_v, non_o, bl_v, bl_o, bl_t, int_v, int_o, str_v, str_o, glb_v, glb_o, tup_v, tup_o, lst_v, lst_o, bin_v, bin_o, bin_t, cmp_t, cmp_v, cmp_o, isN_t, isN_v, isi_t, isi_v, not_t, bop_v, bop_o, bop_t, ife_v, ife_o, idx_v, idx_o, slA_v, slA_o, slB_v, slB_o, call_v, call_o, call_t, callk_v, blt_v, blt_o, comp_v, comp_o, compIf_v, compIf_o, dict0_v, dict1_v, src_eq, rng1_v, zip_v, chain_t, as_nl, as_cs, ds_nl, ds_cs, os_nl, os_cs, vs_nl, vs_cs, es_nl, es_cs, bv_1, bv_2, bt_1, bt_2, s_nil, s_cons, s_set, s_setLc, s_par, s_unp, s_ite, s_loop, s_frz, s_app, rt_non, rt_bl, rt_int, rt_str, rt_glb, rt_tup, rt_lst, rt_bin, rt_cmp, rt_chain, rt_isN, rt_not, rt_bop, rt_ife, rt_idx, rt_slA, rt_slB, rt_call, rt_callk, rt_blt, rt_comp, rt_compIf, rt_isi, gR_s, rt_var, DV.dat, DV.fz, List.getElem?_cons_zero, List.getElem?_cons_succ, List.set_cons_zero, List.set_cons_succ, Option.map_some, Option.map_none, Option.bind_some, Option.bind_none, List.any_cons, List.any_nil, Bool.or_false, Bool.false_or, Bool.or_true, Bool.true_or, Bool.not_true, Bool.not_false, isTy, bltD, blt1, blt2, truthD, intD, setAll, setMany, slAB_v, slAB_o, kSlAB_a, kSlAB0_a, kSlAB1_a, kSlAB2_a, neg_v, neg_o, kNeg_i, notN_t, not_v, s_aug, kAug_a, s_whil, s_brk, s_cont, s_retN, s_popAt, callk_o, kCallk_a, kCallk2_a, dkey_i, dkey_s, kDict_a, kDictU_a, kDict2_d, wp_some, wp_bO, wp_thn, wp_endOf, wp_oV, wp_tV, wp_vB, wp_oB, kW_a, kT_a, kE_a, kOV_a, kTV_a, kVB_a, kOB_a, wipeE, g1]
      exact ⟨l, q'', rfl, rfl, g2, g3⟩
    · rw [rng_len] at l1 h2
      obtain ⟨a, b, c3, rfl⟩ := list3 l1
      have la : Lo 7 own a := l2 0 (.int (0 + (0 : Nat))) a rfl rfl
      have lb : Lo 7 own b := l2 1 (.int (0 + (1 : Nat))) b rfl rfl
      have lc : Lo 7 own c3 := l2 2 (.int (0 + (2 : Nat))) c3 rfl rfl
      have hq2 : DkOk (c + 700935) q2 := h2.mono (by rw [bl]; omega)
      have x0 : idxV (.list [a, b, c3]) (.int 0) = some (.d a) := rfl
      simp only [bO_some, bO_none, lO_some, lO_none, iB_t, iB_f, thn_nx, thn_rt, thn_bk, thn_ct, endOf_rt, endOf_nx, kLift_a, kOk_a, kO2_a, kIte_t, kIte_f, kIfe_t, kIfe_f, kCall_a, kArgs_a, kArgs2_a, kVals_a, kVals2_a, kOpd_a, kOpd2_a, kDat_a, kDat2_a, kBV_a, kBV2_tt, kBV2_ff, kBV2_tf, kBV2_ft, kBT_tt, kBT_ff, kBT_tf, kBT_ft, kComp_a, kSrc_a, kChain_a, kChain2_a, kChain3_t, kChain3_f, kSet_a, kPar_a, kUnp_a, kFor_a, gV_d, gV_dk, gO_d, gO_o, var_v, var_o, var_t, oV_d, oV_own, tV_d, tV_own, vB_s, oB_s, non_v, non_o, bl_v, bl_o, bl_t, int_v, int_o, str_v, str_o, glb_v, glb_o, tup_v, tup_o, lst_v, lst_o, bin_v, bin_o, bin_t, cmp_t, cmp_v, cmp_o, isN_t, isN_v, isi_t, isi_v, not_t, bop_v, bop_o, bop_t, ife_v, ife_o, idx_v, idx_o, slA_v, slA_o, slB_v, slB_o, call_v, call_o, call_t, callk_v, blt_v, blt_o, comp_v, comp_o, compIf_v, compIf_o, dict0_v, dict1_v, src_eq, rng1_v, zip_v, chain_t, as_nl, as_cs, ds_nl, ds_cs, os_nl, os_cs, vs_nl, vs_cs, es_nl, es_cs, bv_1, bv_2, bt_1, bt_2, s_nil, s_cons, s_set, s_setLc, s_par, s_unp, s_ite, s_loop, s_frz, s_app, rt_non, rt_bl, rt_int, rt_str, rt_glb, rt_tup, rt_lst, rt_bin, rt_cmp, rt_chain, rt_isN, rt_not, rt_bop, rt_ife, rt_idx, rt_slA, rt_slB, rt_call, rt_callk, rt_blt, rt_comp, rt_compIf, rt_isi, gR_s, rt_var, DV.dat, DV.fz, List.getElem?_cons_zero, List.getElem?_cons_succ, List.set_cons_zero, List.set_cons_succ, Option.map_some, Option.map_none, Option.bind_some, Option.bind_none, List.any_cons, List.any_nil, Bool.or_false, Bool.false_or, Bool.or_true, Bool.true_or, Bool.not_true, Bool.not_false, isTy, bltD, blt1, blt2, truthD, intD, setAll, setMany, slAB_v, slAB_o, kSlAB_a, kSlAB0_a, kSlAB1_a, kSlAB2_a, neg_v, neg_o, kNeg_i, notN_t, not_v, s_aug, kAug_a, s_whil, s_brk, s_cont, s_retN, s_popAt, callk_o, kCallk_a, kCallk2_a, dkey_i, dkey_s, kDict_a, kDictU_a, kDict2_d, wp_some, wp_bO, wp_thn, wp_endOf, wp_oV, wp_tV, wp_vB, wp_oB, kW_a, kT_a, kE_a, kOV_a, kTV_a, kVB_a, kOB_a]
      refine changed 7 n own _ q2 _ (by omega) ko hq2 (by omega) fun d1 q3 k1 hq3 => ?_
      simp only [bO_some, bO_none, lO_some, lO_none, iB_t, iB_f, thn_nx, thn_rt, thn_bk, thn_ct, endOf_rt, endOf_nx, kLift_a, kOk_a, kO2_a, kIte_t, kIte_f, kIfe_t, kIfe_f, kCall_a, kArgs_a, kArgs2_a, kVals_a, kVals2_a, kOpd_a, kOpd2_a, kDat_a, kDat2_a, kBV_a, kBV2_tt, kBV2_ff, kBV2_tf, kBV2_ft, kBT_tt, kBT_ff, kBT_tf, kBT_ft, kComp_a, kSrc_a, kChain_a, kChain2_a, kChain3_t, kChain3_f, kSet_a, kPar_a, kUnp_a, kFor_a, gV_d, gV_dk, gO_d, gO_o, var_v, var_o, var_t, oV_d, oV_own, tV_d, tV_own, vB_s, oB_s, non_v, non_o, bl_v, bl_o, bl_t, int_v, int_o, str_v, str_o, glb_v, glb_o, tup_v, tup_o, lst_v, lst_o, bin_v, bin_o, bin_t, cmp_t, cmp_v, cmp_o, isN_t, isN_v, isi_t, isi_v, not_t, bop_v, bop_o, bop_t, ife_v, ife_o, idx_v, idx_o, slA_v, slA_o, slB_v, slB_o, call_v, call_o, call_t, callk_v, blt_v, blt_o, comp_v, comp_o, compIf_v, compIf_o, dict0_v, dict1_v, src_eq, rng1_v, zip_v, chain_t, as_nl, as_cs, ds_nl, ds_cs, os_nl, os_cs, vs_nl, vs_cs, es_nl, es_cs, bv_1, bv_2, bt_1, bt_2, s_nil, s_cons, s_set, s_setLc, s_par, s_unp, s_ite, s_loop, s_frz, s_app, rt_non, rt_bl, rt_int, rt_str, rt_glb, rt_tup, rt_lst, rt_bin, rt_cmp, rt_chain, rt_isN, rt_not, rt_bop, rt_ife, rt_idx, rt_slA, rt_slB, rt_call, rt_callk, rt_blt, rt_comp, rt_compIf, rt_isi, gR_s, rt_var, DV.dat, DV.fz, List.getElem?_cons_zero, List.getElem?_cons_succ, List.set_cons_zero, List.set_cons_succ, Option.map_some, Option.map_none, Option.bind_some, Option.bind_none, List.any_cons, List.any_nil, Bool.or_false, Bool.false_or, Bool.or_true, Bool.true_or, Bool.not_true, Bool.not_false, isTy, bltD, blt1, blt2, truthD, intD, setAll, setMany, slAB_v, slAB_o, kSlAB_a, kSlAB0_a, kSlAB1_a, kSlAB2_a, neg_v, neg_o, kNeg_i, notN_t, not_v, s_aug, kAug_a, s_whil, s_brk, s_cont, s_retN, s_popAt, callk_o, kCallk_a, kCallk2_a, dkey_i, dkey_s, kDict_a, kDictU_a, kDict2_d, wp_some, wp_bO, wp_thn, wp_endOf, wp_oV, wp_tV, wp_vB, wp_oB, kW_a, kT_a, kE_a, kOV_a, kTV_a, kVB_a, kOB_a, x0]
      refine changed 7 n a _ q3 _ (by omega) (la.kd ko) hq3 (by omega) fun d2 q4 k2 hq4 => ?_
      simp only [bO_some, bO_none, lO_some, lO_none, iB_t, iB_f, thn_nx, thn_rt, thn_bk, thn_ct, endOf_rt, endOf_nx, kLift_a, kOk_a, kO2_a, kIte_t, kIte_f, kIfe_t, kIfe_f, kCall_a, kArgs_a, kArgs2_a, kVals_a, kVals2_a, kOpd_a, kOpd2_a, kDat_a, kDat2_a, kBV_a, kBV2_tt, kBV2_ff, kBV2_tf, kBV2_ft, kBT_tt, kBT_ff, kBT_tf, kBT_ft, kComp_a, kSrc_a, kChain_a, kChain2_a, kChain3_t, kChain3_f, kSet_a, kPar_a, kUnp_a, kFor_a, gV_d, gV_dk, gO_d, gO_o, var_v, var_o, var_t, oV_d, oV_own, tV_d, tV_own, vB_s, oB_s, non_v, non_o, bl_v, bl_o, bl_t, int_v, int_o, str_v, str_o, glb_v, glb_o, tup_v, tup_o, lst_v, lst_o, bin_v, bin_o, bin_t, cmp_t, cmp_v, cmp_o, isN_t, isN_v, isi_t, isi_v, not_t, bop_v, bop_o, bop_t, ife_v, ife_o, idx_v, idx_o, slA_v, slA_o, slB_v, slB_o, call_v, call_o, call_t, callk_v, blt_v, blt_o, comp_v, comp_o, compIf_v, compIf_o, dict0_v, dict1_v, src_eq, rng1_v, zip_v, chain_t, as_nl, as_cs, ds_nl, ds_cs, os_nl, os_cs, vs_nl, vs_cs, es_nl, es_cs, bv_1, bv_2, bt_1, bt_2, s_nil, s_cons, s_set, s_setLc, s_par, s_unp, s_ite, s_loop, s_frz, s_app, rt_non, rt_bl, rt_int, rt_str, rt_glb, rt_tup, rt_lst, rt_bin, rt_cmp, rt_chain, rt_isN, rt_not, rt_bop, rt_ife, rt_idx, rt_slA, rt_slB, rt_call, rt_callk, rt_blt, rt_comp, rt_compIf, rt_isi, gR_s, rt_var, DV.dat, DV.fz, List.getElem?_cons_zero, List.getElem?_cons_succ, List.set_cons_zero, List.set_cons_succ, Option.map_some, Option.map_none, Option.bind_some, Option.bind_none, List.any_cons, List.any_nil, Bool.or_false, Bool.false_or, Bool.or_true, Bool.true_or, Bool.not_true, Bool.not_false, isTy, bltD, blt1, blt2, truthD, intD, setAll, setMany, slAB_v, slAB_o, kSlAB_a, kSlAB0_a, kSlAB1_a, kSlAB2_a, neg_v, neg_o, kNeg_i, notN_t, not_v, s_aug, kAug_a, s_whil, s_brk, s_cont, s_retN, s_popAt, callk_o, kCallk_a, kCallk2_a, dkey_i, dkey_s, kDict_a, kDictU_a, kDict2_d, wp_some, wp_bO, wp_thn, wp_endOf, wp_oV, wp_tV, wp_vB, wp_oB, kW_a, kT_a, kE_a, kOV_a, kTV_a, kVB_a, kOB_a]
      refine wkind (s := 3) (r := 3) (by omega) hq4 (by omega) fun d3 q5 k3 hq5 => ?_
      have kd3 : Kd 7 d3 := isK_kd (k3 7 (by decide))
      simp only [bO_some, bO_none, lO_some, lO_none, iB_t, iB_f, thn_nx, thn_rt, thn_bk, thn_ct, endOf_rt, endOf_nx, kLift_a, kOk_a, kO2_a, kIte_t, kIte_f, kIfe_t, kIfe_f, kCall_a, kArgs_a, kArgs2_a, kVals_a, kVals2_a, kOpd_a, kOpd2_a, kDat_a, kDat2_a, kBV_a, kBV2_tt, kBV2_ff, kBV2_tf, kBV2_ft, kBT_tt, kBT_ff, kBT_tf, kBT_ft, kComp_a, kSrc_a, kChain_a, kChain2_a, kChain3_t, kChain3_f, kSet_a, kPar_a, kUnp_a, kFor_a, gV_d, gV_dk, gO_d, gO_o, var_v, var_o, var_t, oV_d, oV_own, tV_d, tV_own, vB_s, oB_s, non_v, non_o, bl_v, bl_o, bl_t, int_v, int_o, str_v, str_o, glb_v, glb_o, tup_v, tup_o, lst_v, lst_o, bin_v, bin_o, bin_t, cmp_t, cmp_v, cmp_o, isN_t, isN_v, isi_t, isi_v, not_t, bop_v, bop_o, bop_t, ife_v, ife_o, idx_v, idx_o, slA_v, slA_o, slB_v, slB_o, call_v, call_o, call_t, callk_v, blt_v, blt_o, comp_v, comp_o, compIf_v, compIf_o, dict0_v, dict1_v, src_eq, rng1_v, zip_v, chain_t, as_nl, as_cs, ds_nl, ds_cs, os_nl, os_cs, vs_nl, vs_cs, es_nl, es_cs, bv_1, bv_2, bt_1, bt_2, s_nil, s_cons, s_set, s_setLc, s_par, s_unp, s_ite, s_loop, s_frz, s_app, rt_non, rt_bl, rt_int, rt_str, rt_glb, rt_tup, rt_lst, rt_bin, rt_cmp, rt_chain, rt_isN, rt_not, rt_bop, rt_ife, rt_idx, rt_slA, rt_slB, rt_call, rt_callk, rt_blt, rt_comp, rt_compIf, rt_isi, gR_s, rt_var, DV.dat, DV.fz, List.getElem?_cons_zero, List.getElem?_cons_succ, List.set_cons_zero, List.set_cons_succ, Option.map_some, Option.map_none, Option.bind_some, Option.bind_none, List.any_cons, List.any_nil, Bool.or_false, Bool.false_or, Bool.or_true, Bool.true_or, Bool.not_true, Bool.not_false, isTy, bltD, blt1, blt2, truthD, intD, setAll, setMany, slAB_v, slAB_o, kSlAB_a, kSlAB0_a, kSlAB1_a, kSlAB2_a, neg_v, neg_o, kNeg_i, notN_t, not_v, s_aug, kAug_a, s_whil, s_brk, s_cont, s_retN, s_popAt, callk_o, kCallk_a, kCallk2_a, dkey_i, dkey_s, kDict_a, kDictU_a, kDict2_d, wp_some, wp_bO, wp_thn, wp_endOf, wp_oV, wp_tV, wp_vB, wp_oB, kW_a, kT_a, kE_a, kOV_a, kTV_a, kVB_a, kOB_a, lstAdd (xs := [a, b, c3]) (ys := [own, d1, d2, d3]) (by simp)]
      simp only [List.cons_append, List.nil_append]
      have mem : ∀ x ∈ [a, b, c3, own, d1, d2, d3], Kd 9 x := fun x hx => by
        simp only [List.mem_cons, List.not_mem_nil, or_false] at hx
        rcases hx with rfl | rfl | rfl | rfl | rfl | rfl | rfl
        · exact (la.kd ko).mono (by decide)
        · exact (lb.kd ko).mono (by decide)
        · exact (lc.kd ko).mono (by decide)
        · exact ko.mono (by decide)
        · exact k1
        · exact k2
        · exact kd3.mono (by decide)
      have ow : callD Pg n 13 [.d own, .d (.int 3), .d (.int 3)] (some q5) = some (.d (.bool true), some q5) := by
        have := own_ok n 3 3 own (some q5) (by omega)
        rw [hk n (by omega)] at this
        exact this
      have s7 : srcL [a, b, c3, own, d1, d2, d3] = some [a, b, c3, own, d1, d2, d3] := srcL_ok (Nat.le_trans (show 7 ≤ 100 by decide) sl100)
      have f1 : compL (.one 2) (evA (CX n) b20_3).v (evA (CX n) b20_4).t [a, b, c3, own, d1, d2, d3] [some (.d s), some .dk, x2, some (.d (.int i)), some (.d own), some (.d (.list [a, b, c3])), x6, some (.d (.list [a, b, c3, own, d1, d2, d3])), x8] (some q5) = some ([], some q5) :=
        comp_none _ fun x hx => repC n (by omega) rfl ((mem x hx).rep (by decide))
      simp only [bO_some, bO_none, lO_some, lO_none, iB_t, iB_f, thn_nx, thn_rt, thn_bk, thn_ct, endOf_rt, endOf_nx, kLift_a, kOk_a, kO2_a, kIte_t, kIte_f, kIfe_t, kIfe_f, kCall_a, kArgs_a, kArgs2_a, kVals_a, kVals2_a, kOpd_a, kOpd2_a, kDat_a, kDat2_a, kBV_a, kBV2_tt, kBV2_ff, kBV2_tf, kBV2_ft, kBT_tt, kBT_ff, kBT_tf, kBT_ft, kComp_a, kSrc_a, kChain_a, kChain2_a, kChain3_t, kChain3_f, kSet_a, kPar_a, kUnp_a, kFor_a, gV_d, gV_dk, gO_d, gO_o, var_v, var_o, var_t, oV_d, oV_own, tV_d, tV_own, vB_s, oB_s, non_v, non_o, bl_v, bl_o, bl_t, int_v, int_o, str_v, str_o, glb_v, glb_o, tup_v, tup_o, lst_v, lst_o, bin_v, bin_o, bin_t, cmp_t, cmp_v, cmp_o, isN_t, isN_v, isi_t, isi_v, not_t, bop_v, bop_o, bop_t, ife_v, ife_o, idx_v, idx_o, slA_v, slA_o, slB_v, slB_o, call_v, call_o, call_t, callk_v, blt_v, blt_o, comp_v, comp_o, compIf_v, compIf_o, dict0_v, dict1_v, src_eq, rng1_v, zip_v, chain_t, as_nl, as_cs, ds_nl, ds_cs, os_nl, os_cs, vs_nl, vs_cs, es_nl, es_cs, bv_1, bv_2, bt_1, bt_2, s_nil, s_cons, s_set, s_setLc, s_par, s_unp, s_ite, s_loop, s_frz, s_app, rt_non, rt_bl, rt_int, rt_str, rt_glb, rt_tup, rt_lst, rt_bin, rt_cmp, rt_chain, rt_isN, rt_not, rt_bop, rt_ife, rt_idx, rt_slA, rt_slB, rt_call, rt_callk, rt_blt, rt_comp, rt_compIf, rt_isi, gR_s, rt_var, DV.dat, DV.fz, List.getElem?_cons_zero, List.getElem?_cons_succ, List.set_cons_zero, List.set_cons_succ, Option.map_some, Option.map_none, Option.bind_some, Option.bind_none, List.any_cons, List.any_nil, Bool.or_false, Bool.false_or, Bool.or_true, Bool.true_or, Bool.not_true, Bool.not_false, isTy, bltD, blt1, blt2, truthD, intD, setAll, setMany, slAB_v, slAB_o, kSlAB_a, kSlAB0_a, kSlAB1_a, kSlAB2_a, neg_v, neg_o, kNeg_i, notN_t, not_v, s_aug, kAug_a, s_whil, s_brk, s_cont, s_retN, s_popAt, callk_o, kCallk_a, kCallk2_a, dkey_i, dkey_s, kDict_a, kDictU_a, kDict2_d, wp_some, wp_bO, wp_thn, wp_endOf, wp_oV, wp_tV, wp_vB, wp_oB, kW_a, kT_a, kE_a, kOV_a, kTV_a, kVB_a, kOB_a, ow, itemsD, s7, f1, neNN, rng6, rngSrc (show 6 ≤ 100 by decide)]
      refine wp_comp (fun _ d => repOk d = true) 60 (lim := 900000000) (by decide) _ _ q5 _ hq5 (by rw [rng_len]; omega) (fun x _ c' q' h1 h2 => ?_) fun bs q6 l1 l2 hq6 => ?_
      · simp only [b20_6, bO_some, bO_none, lO_some, lO_none, iB_t, iB_f, thn_nx, thn_rt, thn_bk, thn_ct, endOf_rt, endOf_nx, kLift_a, kOk_a, kO2_a, kIte_t, kIte_f, kIfe_t, kIfe_f, kCall_a, kArgs_a, kArgs2_a, kVals_a, kVals2_a, kOpd_a, kOpd2_a, kDat_a, kDat2_a, kBV_a, kBV2_tt, kBV2_ff, kBV2_tf, kBV2_ft, kBT_tt, kBT_ff, kBT_tf, kBT_ft, kComp_a, kSrc_a, kChain_a, kChain2_a, kChain3_t, kChain3_f, kSet_a, kPar_a, kUnp_a, kFor_a, gV_d, gV_dk, gO_d, gO_o, var_v, var_o, var_t, oV_d, oV_own, tV_d, tV_own, vB_s, oB_s, non_v, non_o, bl_v, bl_o, bl_t, int_v, int_o, str_v, str_o, glb_v, glb_o, tup_v, tup_o, lst_v, lst_o, bin_v, bin_o, bin_t, cmp_t, cmp_v, cmp_o, isN_t, isN_v, isi_t, isi_v, not_t, bop_v, bop_o, bop_t, ife_v, ife_o, idx_v, idx_o, slA_v, slA_o, slB_v, slB_o, call_v, call_o, call_t, callk_v, blt_v, blt_o, comp_v, comp_o, compIf_v, compIf_o, dict0_v, dict1_v, src_eq, rng1_v, zip_v, chain_t, as_nl, as_cs, ds_nl, ds_cs, os_nl, os_cs, vs_nl, vs_cs, es_nl, es_cs, bv_1, bv_2, bt_1, bt_2, s_nil, s_cons, s_set, s_setLc, s_par, s_unp, s_ite, s_loop, s_frz, s_app, rt_non, rt_bl, rt_int, rt_str, rt_glb, rt_tup, rt_lst, rt_bin, rt_cmp, rt_chain, rt_isN, rt_not, rt_bop, rt_ife, rt_idx, rt_slA, rt_slB, rt_call, rt_callk, rt_blt, rt_comp, rt_compIf, rt_isi, gR_s, rt_var, DV.dat, DV.fz, List.getElem?_cons_zero, List.getElem?_cons_succ, List.set_cons_zero, List.set_cons_succ, Option.map_some, Option.map_none, Option.bind_some, Option.bind_none, List.any_cons, List.any_nil, Bool.or_false, Bool.false_or, Bool.or_true, Bool.true_or, Bool.not_true, Bool.not_false, isTy, bltD, blt1, blt2, truthD, intD, setAll, setMany, slAB_v, slAB_o, kSlAB_a, kSlAB0_a, kSlAB1_a, kSlAB2_a, neg_v, neg_o, kNeg_i, notN_t, not_v, s_aug, kAug_a, s_whil, s_brk, s_cont, s_retN, s_popAt, callk_o, kCallk_a, kCallk2_a, dkey_i, dkey_s, kDict_a, kDictU_a, kDict2_d, wp_some, wp_bO, wp_thn, wp_endOf, wp_oV, wp_tV, wp_vB, wp_oB, kW_a, kT_a, kE_a, kOV_a, kTV_a, kVB_a, kOB_a, wipeE]
        refine bent 14 n own c' q' (fS 7) 14 _ (by omega) (by decide) (by decide +kernel) ko.nice ko.sz h1 (by omega) fun r q'' g1 g2 => ?_
        exact ⟨r, q'', rfl, rfl, repOk_of g1 (by decide +kernel) (by decide), g2.mono (by omega)⟩
      · rw [rng_len] at l1 hq6
        have sb : srcL bs = some bs := srcL_ok (Nat.le_trans (show bs.length ≤ 100 by omega) sl100)
        have f2 : compL (.one 2) (evA (CX n) b20_5).v (evA (CX n) b20_7).t bs [some (.d s), some .dk, x2, some (.d (.int i)), some (.d own), some (.d (.list [a, b, c3])), x6, some (.d (.list [a, b, c3, own, d1, d2, d3])), x8] (some q6) = some ([], some q6) :=
          comp_none _ fun x hx => repC n (by omega) rfl (by
            obtain ⟨j, hj⟩ := List.getElem?_of_mem hx
            have hlt : j < (rngL 0 6).length := by rw [rng_len, ← l1]; exact (List.getElem?_eq_some_iff.mp hj).1
            exact l2 j _ x (List.getElem?_eq_getElem hlt) hj)
        have f3 : compL (.one 2) (evA (CX n) b20_8).v (evA (CX n) b20_9).t [a, b, c3, own, d1, d2, d3] [some (.d s), some .dk, x2, some (.d (.int i)), some (.d own), some (.d (.list [a, b, c3])), x6, some (.d (.list [a, b, c3, own, d1, d2, d3])), x8] (some q6) = some ([a, b, c3, own, d1, d2, d3].filter (isK n 3 3), some q6) :=
          comp_filter _ fun x hx => by
            have o := own_ok n 3 3 x (some q6) (by omega)
            have o' : callD Pg n 13 [.d x, .d (.int 3), .d (.int 3)] (some q6) = some (.d (.bool (isK n 3 3 x)), some q6) := o
            constructor
            · simp only [b20_9, bO_some, bO_none, lO_some, lO_none, iB_t, iB_f, thn_nx, thn_rt, thn_bk, thn_ct, endOf_rt, endOf_nx, kLift_a, kOk_a, kO2_a, kIte_t, kIte_f, kIfe_t, kIfe_f, kCall_a, kArgs_a, kArgs2_a, kVals_a, kVals2_a, kOpd_a, kOpd2_a, kDat_a, kDat2_a, kBV_a, kBV2_tt, kBV2_ff, kBV2_tf, kBV2_ft, kBT_tt, kBT_ff, kBT_tf, kBT_ft, kComp_a, kSrc_a, kChain_a, kChain2_a, kChain3_t, kChain3_f, kSet_a, kPar_a, kUnp_a, kFor_a, gV_d, gV_dk, gO_d, gO_o, var_v, var_o, var_t, oV_d, oV_own, tV_d, tV_own, vB_s, oB_s, non_v, non_o, bl_v, bl_o, bl_t, int_v, int_o, str_v, str_o, glb_v, glb_o, tup_v, tup_o, lst_v, lst_o, bin_v, bin_o, bin_t, cmp_t, cmp_v, cmp_o, isN_t, isN_v, isi_t, isi_v, not_t, bop_v, bop_o, bop_t, ife_v, ife_o, idx_v, idx_o, slA_v, slA_o, slB_v, slB_o, call_v, call_o, call_t, callk_v, blt_v, blt_o, comp_v, comp_o, compIf_v, compIf_o, dict0_v, dict1_v, src_eq, rng1_v, zip_v, chain_t, as_nl, as_cs, ds_nl, ds_cs, os_nl, os_cs, vs_nl, vs_cs, es_nl, es_cs, bv_1, bv_2, bt_1, bt_2, s_nil, s_cons, s_set, s_setLc, s_par, s_unp, s_ite, s_loop, s_frz, s_app, rt_non, rt_bl, rt_int, rt_str, rt_glb, rt_tup, rt_lst, rt_bin, rt_cmp, rt_chain, rt_isN, rt_not, rt_bop, rt_ife, rt_idx, rt_slA, rt_slB, rt_call, rt_callk, rt_blt, rt_comp, rt_compIf, rt_isi, gR_s, rt_var, DV.dat, DV.fz, List.getElem?_cons_zero, List.getElem?_cons_succ, List.set_cons_zero, List.set_cons_succ, Option.map_some, Option.map_none, Option.bind_some, Option.bind_none, List.any_cons, List.any_nil, Bool.or_false, Bool.false_or, Bool.or_true, Bool.true_or, Bool.not_true, Bool.not_false, isTy, bltD, blt1, blt2, truthD, intD, setAll, setMany, slAB_v, slAB_o, kSlAB_a, kSlAB0_a, kSlAB1_a, kSlAB2_a, neg_v, neg_o, kNeg_i, notN_t, not_v, s_aug, kAug_a, s_whil, s_brk, s_cont, s_retN, s_popAt, callk_o, kCallk_a, kCallk2_a, dkey_i, dkey_s, kDict_a, kDictU_a, kDict2_d, wipeE, o']
            · simp only [b20_8, bO_some, bO_none, lO_some, lO_none, iB_t, iB_f, thn_nx, thn_rt, thn_bk, thn_ct, endOf_rt, endOf_nx, kLift_a, kOk_a, kO2_a, kIte_t, kIte_f, kIfe_t, kIfe_f, kCall_a, kArgs_a, kArgs2_a, kVals_a, kVals2_a, kOpd_a, kOpd2_a, kDat_a, kDat2_a, kBV_a, kBV2_tt, kBV2_ff, kBV2_tf, kBV2_ft, kBT_tt, kBT_ff, kBT_tf, kBT_ft, kComp_a, kSrc_a, kChain_a, kChain2_a, kChain3_t, kChain3_f, kSet_a, kPar_a, kUnp_a, kFor_a, gV_d, gV_dk, gO_d, gO_o, var_v, var_o, var_t, oV_d, oV_own, tV_d, tV_own, vB_s, oB_s, non_v, non_o, bl_v, bl_o, bl_t, int_v, int_o, str_v, str_o, glb_v, glb_o, tup_v, tup_o, lst_v, lst_o, bin_v, bin_o, bin_t, cmp_t, cmp_v, cmp_o, isN_t, isN_v, isi_t, isi_v, not_t, bop_v, bop_o, bop_t, ife_v, ife_o, idx_v, idx_o, slA_v, slA_o, slB_v, slB_o, call_v, call_o, call_t, callk_v, blt_v, blt_o, comp_v, comp_o, compIf_v, compIf_o, dict0_v, dict1_v, src_eq, rng1_v, zip_v, chain_t, as_nl, as_cs, ds_nl, ds_cs, os_nl, os_cs, vs_nl, vs_cs, es_nl, es_cs, bv_1, bv_2, bt_1, bt_2, s_nil, s_cons, s_set, s_setLc, s_par, s_unp, s_ite, s_loop, s_frz, s_app, rt_non, rt_bl, rt_int, rt_str, rt_glb, rt_tup, rt_lst, rt_bin, rt_cmp, rt_chain, rt_isN, rt_not, rt_bop, rt_ife, rt_idx, rt_slA, rt_slB, rt_call, rt_callk, rt_blt, rt_comp, rt_compIf, rt_isi, gR_s, rt_var, DV.dat, DV.fz, List.getElem?_cons_zero, List.getElem?_cons_succ, List.set_cons_zero, List.set_cons_succ, Option.map_some, Option.map_none, Option.bind_some, Option.bind_none, List.any_cons, List.any_nil, Bool.or_false, Bool.false_or, Bool.or_true, Bool.true_or, Bool.not_true, Bool.not_false, isTy, bltD, blt1, blt2, truthD, intD, setAll, setMany, slAB_v, slAB_o, kSlAB_a, kSlAB0_a, kSlAB1_a, kSlAB2_a, neg_v, neg_o, kNeg_i, notN_t, not_v, s_aug, kAug_a, s_whil, s_brk, s_cont, s_retN, s_popAt, callk_o, kCallk_a, kCallk2_a, dkey_i, dkey_s, kDict_a, kDictU_a, kDict2_d, wipeE]
        have sf : srcL ([a, b, c3, own, d1, d2, d3].filter (isK n 3 3)) = some ([a, b, c3, own, d1, d2, d3].filter (isK n 3 3)) := srcL_ok (Nat.le_trans (List.length_filter_le _ _) (Nat.le_trans (show 7 ≤ 100 by decide) sl100))
        simp only [bO_some, bO_none, lO_some, lO_none, iB_t, iB_f, thn_nx, thn_rt, thn_bk, thn_ct, endOf_rt, endOf_nx, kLift_a, kOk_a, kO2_a, kIte_t, kIte_f, kIfe_t, kIfe_f, kCall_a, kArgs_a, kArgs2_a, kVals_a, kVals2_a, kOpd_a, kOpd2_a, kDat_a, kDat2_a, kBV_a, kBV2_tt, kBV2_ff, kBV2_tf, kBV2_ft, kBT_tt, kBT_ff, kBT_tf, kBT_ft, kComp_a, kSrc_a, kChain_a, kChain2_a, kChain3_t, kChain3_f, kSet_a, kPar_a, kUnp_a, kFor_a, gV_d, gV_dk, gO_d, gO_o, var_v, var_o, var_t, oV_d, oV_own, tV_d, tV_own, vB_s, oB_s, non_v, non_o, bl_v, bl_o, bl_t, int_v, int_o, str_v, str_o, glb_v, glb_o, tup_v, tup_o, lst_v, lst_o, bin_v, bin_o, bin_t, cmp_t, cmp_v, cmp_o, isN_t, isN_v, isi_t, isi_v, not_t, bop_v, bop_o, bop_t, ife_v, ife_o, idx_v, idx_o, slA_v, slA_o, slB_v, slB_o, call_v, call_o, call_t, callk_v, blt_v, blt_o, comp_v, comp_o, compIf_v, compIf_o, dict0_v, dict1_v, src_eq, rng1_v, zip_v, chain_t, as_nl, as_cs, ds_nl, ds_cs, os_nl, os_cs, vs_nl, vs_cs, es_nl, es_cs, bv_1, bv_2, bt_1, bt_2, s_nil, s_cons, s_set, s_setLc, s_par, s_unp, s_ite, s_loop, s_frz, s_app, rt_non, rt_bl, rt_int, rt_str, rt_glb, rt_tup, rt_lst, rt_bin, rt_cmp, rt_chain, rt_isN, rt_not, rt_bop, rt_ife, rt_idx, rt_slA, rt_slB, rt_call, rt_callk, rt_blt, rt_comp, rt_compIf, rt_isi, gR_s, rt_var, DV.dat, DV.fz, List.getElem?_cons_zero, List.getElem?_cons_succ, List.set_cons_zero, List.set_cons_succ, Option.map_some, Option.map_none, Option.bind_some, Option.bind_none, List.any_cons, List.any_nil, Bool.or_false, Bool.false_or, Bool.or_true, Bool.true_or, Bool.not_true, Bool.not_false, isTy, bltD, blt1, blt2, truthD, intD, setAll, setMany, slAB_v, slAB_o, kSlAB_a, kSlAB0_a, kSlAB1_a, kSlAB2_a, neg_v, neg_o, kNeg_i, notN_t, not_v, s_aug, kAug_a, s_whil, s_brk, s_cont, s_retN, s_popAt, callk_o, kCallk_a, kCallk2_a, dkey_i, dkey_s, kDict_a, kDictU_a, kDict2_d, wp_some, wp_bO, wp_thn, wp_endOf, wp_oV, wp_tV, wp_vB, wp_oB, kW_a, kT_a, kE_a, kOV_a, kTV_a, kVB_a, kOB_a, itemsD, sb, f2, neNN, s7, f3]
        have th := three n own a b c3 (some q6) 7 (by decide) (by omega) ko la lb lc
        have hfl : ∀ x ∈ [a, b, c3, own, d1, d2, d3].filter (isK n 3 3), Kd 9 x := fun x hx => mem x (List.mem_filter.mp hx).1
        generalize [a, b, c3, own, d1, d2, d3].filter (isK n 3 3) = fl at sf hfl ⊢
        simp only [bO_some, bO_none, lO_some, lO_none, iB_t, iB_f, thn_nx, thn_rt, thn_bk, thn_ct, endOf_rt, endOf_nx, kLift_a, kOk_a, kO2_a, kIte_t, kIte_f, kIfe_t, kIfe_f, kCall_a, kArgs_a, kArgs2_a, kVals_a, kVals2_a, kOpd_a, kOpd2_a, kDat_a, kDat2_a, kBV_a, kBV2_tt, kBV2_ff, kBV2_tf, kBV2_ft, kBT_tt, kBT_ff, kBT_tf, kBT_ft, kComp_a, kSrc_a, kChain_a, kChain2_a, kChain3_t, kChain3_f, kSet_a, kPar_a, kUnp_a, kFor_a, gV_d, gV_dk, gO_d, gO_o, var_v, var_o, var_t, oV_d, oV_own, tV_d, tV_own, vB_s, oB_s, non_v, non_o, bl_v, bl_o, bl_t, int_v, int_o, str_v, str_o, glb_v, glb_o, tup_v, tup_o, lst_v, lst_o, bin_v, bin_o, bin_t, cmp_t, cmp_v, cmp_o, isN_t, isN_v, isi_t, isi_v, not_t, bop_v, bop_o, bop_t, ife_v, ife_o, idx_v, idx_o, slA_v, slA_o, slB_v, slB_o, call_v, call_o, call_t, callk_v, blt_v, blt_o, comp_v, comp_o, compIf_v, compIf_o, dict0_v, dict1_v, src_eq, rng1_v, zip_v, chain_t, as_nl, as_cs, ds_nl, ds_cs, os_nl, os_cs, vs_nl, vs_cs, es_nl, es_cs, bv_1, bv_2, bt_1, bt_2, s_nil, s_cons, s_set, s_setLc, s_par, s_unp, s_ite, s_loop, s_frz, s_app, rt_non, rt_bl, rt_int, rt_str, rt_glb, rt_tup, rt_lst, rt_bin, rt_cmp, rt_chain, rt_isN, rt_not, rt_bop, rt_ife, rt_idx, rt_slA, rt_slB, rt_call, rt_callk, rt_blt, rt_comp, rt_compIf, rt_isi, gR_s, rt_var, DV.dat, DV.fz, List.getElem?_cons_zero, List.getElem?_cons_succ, List.set_cons_zero, List.set_cons_succ, Option.map_some, Option.map_none, Option.bind_some, Option.bind_none, List.any_cons, List.any_nil, Bool.or_false, Bool.false_or, Bool.or_true, Bool.true_or, Bool.not_true, Bool.not_false, isTy, bltD, blt1, blt2, truthD, intD, setAll, setMany, slAB_v, slAB_o, kSlAB_a, kSlAB0_a, kSlAB1_a, kSlAB2_a, neg_v, neg_o, kNeg_i, notN_t, not_v, s_aug, kAug_a, s_whil, s_brk, s_cont, s_retN, s_popAt, callk_o, kCallk_a, kCallk2_a, dkey_i, dkey_s, kDict_a, kDictU_a, kDict2_d, wp_some, wp_bO, wp_thn, wp_endOf, wp_oV, wp_tV, wp_vB, wp_oB, kW_a, kT_a, kE_a, kOV_a, kTV_a, kVB_a, kOB_a, sf]
        refine farLoop n hn s (.int i) own a b c3 _ q6 fl _ _ _ (ko.mono (by decide)) ((lb.kd ko).mono (by decide)) hfl fun x2 x6 x8 => ?_
        simp only [bO_some, bO_none, lO_some, lO_none, iB_t, iB_f, thn_nx, thn_rt, thn_bk, thn_ct, endOf_rt, endOf_nx, kLift_a, kOk_a, kO2_a, kIte_t, kIte_f, kIfe_t, kIfe_f, kCall_a, kArgs_a, kArgs2_a, kVals_a, kVals2_a, kOpd_a, kOpd2_a, kDat_a, kDat2_a, kBV_a, kBV2_tt, kBV2_ff, kBV2_tf, kBV2_ft, kBT_tt, kBT_ff, kBT_tf, kBT_ft, kComp_a, kSrc_a, kChain_a, kChain2_a, kChain3_t, kChain3_f, kSet_a, kPar_a, kUnp_a, kFor_a, gV_d, gV_dk, gO_d, gO_o, var_v, var_o, var_t, oV_d, oV_own, tV_d, tV_own, vB_s, oB_s, non_v, non_o, bl_v, bl_o, bl_t, int_v, int_o, str_v, str_o, glb_v, glb_o, tup_v, tup_o, lst_v, lst_o, bin_v, bin_o, bin_t, cmp_t, cmp_v, cmp_o, isN_t, isN_v, isi_t, isi_v, not_t, bop_v, bop_o, bop_t, ife_v, ife_o, idx_v, idx_o, slA_v, slA_o, slB_v, slB_o, call_v, call_o, call_t, callk_v, blt_v, blt_o, comp_v, comp_o, compIf_v, compIf_o, dict0_v, dict1_v, src_eq, rng1_v, zip_v, chain_t, as_nl, as_cs, ds_nl, ds_cs, os_nl, os_cs, vs_nl, vs_cs, es_nl, es_cs, bv_1, bv_2, bt_1, bt_2, s_nil, s_cons, s_set, s_setLc, s_par, s_unp, s_ite, s_loop, s_frz, s_app, rt_non, rt_bl, rt_int, rt_str, rt_glb, rt_tup, rt_lst, rt_bin, rt_cmp, rt_chain, rt_isN, rt_not, rt_bop, rt_ife, rt_idx, rt_slA, rt_slB, rt_call, rt_callk, rt_blt, rt_comp, rt_compIf, rt_isi, gR_s, rt_var, DV.dat, DV.fz, List.getElem?_cons_zero, List.getElem?_cons_succ, List.set_cons_zero, List.set_cons_succ, Option.map_some, Option.map_none, Option.bind_some, Option.bind_none, List.any_cons, List.any_nil, Bool.or_false, Bool.false_or, Bool.or_true, Bool.true_or, Bool.not_true, Bool.not_false, isTy, bltD, blt1, blt2, truthD, intD, setAll, setMany, slAB_v, slAB_o, kSlAB_a, kSlAB0_a, kSlAB1_a, kSlAB2_a, neg_v, neg_o, kNeg_i, notN_t, not_v, s_aug, kAug_a, s_whil, s_brk, s_cont, s_retN, s_popAt, callk_o, kCallk_a, kCallk2_a, dkey_i, dkey_s, kDict_a, kDictU_a, kDict2_d, wp_some, wp_bO, wp_thn, wp_endOf, wp_oV, wp_tV, wp_vB, wp_oB, kW_a, kT_a, kE_a, kOV_a, kTV_a, kVB_a, kOB_a, th]
        exact hQ _ _ _ _ _ _ _ q6 (hq6.mono (by rw [bc, bk, bt]; omega))
theorem turns (n : Nat) (hn : 30 ≤ n) (s : PyData) (x2 x3 x4 x5 x6 x7 x8 : Option DV) (q : Dk) (hq : DkOk 100 q) {Q : Fl → OD → Prop}
    (hQ : ∀ x2 x3 x4 x5 x6 x7 x8 q', Q (.nx [some (.d s), some .dk, x2, x3, x4, x5, x6, x7, x8]) (some q')) :
    Wp (forL (.one 3) (evSs (CX n) b20_11) (rngL 0 12) [some (.d s), some .dk, x2, x3, x4, x5, x6, x7, x8] (some q)) Q := by
  have bt : BT = 2000000 := rfl
  refine wp_for (TurnI s) _ _ _ _ ⟨x2, x3, x4, x5, x6, x7, x8, q, rfl, rfl, hq.mono (by rw [rng_len]; simp), by rw [rng_len]; decide, fun x hx => rng_mem hx⟩ (fun y ys ρ k hI => ?_) fun ρ k hI => ?_
  · obtain ⟨x2, x3, x4, x5, x6, x7, x8, q, rfl, rfl, h1, h2, h3⟩ := hI.ex
    obtain ⟨i, rfl, hi⟩ := h3 y List.mem_cons_self
    rw [List.length_cons] at h1 h2
    refine ⟨_, rfl, ?_⟩
    simp only [List.set]
    refine turn n hn s i x2 x4 x5 x6 x7 x8 _ q h1 (by rw [bt]; omega) fun x2 x3 x4 x5 x6 x7 x8 q' hq' => ?_
    exact ⟨x2, x3, x4, x5, x6, x7, x8, q', rfl, rfl, hq'.mono (by rw [bt]; omega), by omega, fun x hx => h3 x (List.mem_cons_of_mem _ hx)⟩
  · obtain ⟨x2, x3, x4, x5, x6, x7, x8, q, rfl, rfl, h1, h2, h3⟩ := hI.ex
    exact hQ _ _ _ _ _ _ _ q
theorem runW (ns : List Int) (h : ns.length ≤ 63) : Wp (callD Pg 60 20 [.d (.list (ns.map .int))] none) fun v _ => v = .d (.bool true) := by
  show Wp (endOf (evSs (CX 59) b20 [some (.d (.list (ns.map .int))), none, none, none, none, none, none, none, none] none)) _
  obtain ⟨t, hd⟩ := deck_ok (CX 58) ns h
  have hd' : callD Pg 59 5 [.d (.list (ns.map .int))] none = some (.dk, some ⟨ns.reverse, t, 0⟩) := by
    show endOf (evSs (CX 58) deckB [some (.d (.list (ns.map .int))), none, none, none] none) = _
    rw [hd]; rfl
  generalize PyData.list (ns.map .int) = s at *
  have ok : DkOk 0 ⟨ns.reverse, t, 0⟩ := ⟨by simpa using h, by simp, by simp⟩
  generalize (⟨ns.reverse, t, 0⟩ : Dk) = q at *
  unfold b20
  simp only [bO_some, bO_none, lO_some, lO_none, iB_t, iB_f, thn_nx, thn_rt, thn_bk, thn_ct, endOf_rt, endOf_nx, kLift_a, kOk_a, kO2_a, kIte_t, kIte_f, kIfe_t, kIfe_f, kCall_a, kArgs_a, kArgs2_a, kVals_a, kVals2_a, kOpd_a, kOpd2_a, kDat_a, kDat2_a, kBV_a, kBV2_tt, kBV2_ff, kBV2_tf, kBV2_ft, kBT_tt, kBT_ff, kBT_tf, kBT_ft, kComp_a, kSrc_a, kChain_a, kChain2_a, kChain3_t, kChain3_f, kSet_a, kPar_a, kUnp_a, kFor_a, gV_d, gV_dk, gO_d, gO_o, var_v, var_o, var_t, oV_d, oV_own, tV_d, tV_own, vB_s, oB_s, non_v, non_o, bl_v, bl_o, bl_t, int_v, int_o, str_v, str_o, glb_v, glb_o, tup_v, tup_o, lst_v, lst_o, bin_v, bin_o, bin_t, cmp_t, cmp_v, cmp_o, isN_t, isN_v, isi_t, isi_v, not_t, bop_v, bop_o, bop_t, ife_v, ife_o, idx_v, idx_o, slA_v, slA_o, slB_v, slB_o, call_v, call_o, call_t, callk_v, blt_v, blt_o, comp_v, comp_o, compIf_v, compIf_o, dict0_v, dict1_v, src_eq, rng1_v, zip_v, chain_t, as_nl, as_cs, ds_nl, ds_cs, os_nl, os_cs, vs_nl, vs_cs, es_nl, es_cs, bv_1, bv_2, bt_1, bt_2, s_nil, s_cons, s_set, s_setLc, s_par, s_unp, s_ite, s_loop, s_frz, s_app, rt_non, rt_bl, rt_int, rt_str, rt_glb, rt_tup, rt_lst, rt_bin, rt_cmp, rt_chain, rt_isN, rt_not, rt_bop, rt_ife, rt_idx, rt_slA, rt_slB, rt_call, rt_callk, rt_blt, rt_comp, rt_compIf, rt_isi, gR_s, rt_var, DV.dat, DV.fz, List.getElem?_cons_zero, List.getElem?_cons_succ, List.set_cons_zero, List.set_cons_succ, Option.map_some, Option.map_none, Option.bind_some, Option.bind_none, List.any_cons, List.any_nil, Bool.or_false, Bool.false_or, Bool.or_true, Bool.true_or, Bool.not_true, Bool.not_false, isTy, bltD, blt1, blt2, truthD, intD, setAll, setMany, slAB_v, slAB_o, kSlAB_a, kSlAB0_a, kSlAB1_a, kSlAB2_a, neg_v, neg_o, kNeg_i, notN_t, not_v, s_aug, kAug_a, s_whil, s_brk, s_cont, s_retN, s_popAt, callk_o, kCallk_a, kCallk2_a, dkey_i, dkey_s, kDict_a, kDictU_a, kDict2_d, wp_some, wp_bO, wp_thn, wp_endOf, wp_oV, wp_tV, wp_vB, wp_oB, kW_a, kT_a, kE_a, kOV_a, kTV_a, kVB_a, kOB_a, hd']
  refine deepThings 56 0 q ok (by decide) fun ds q1 h1 h2 hq1 => ?_
  have sd : srcL ds = some ds := srcL_ok (Nat.le_trans (show ds.length ≤ 100 by omega) sl100)
  have f0 : compL (.one 2) (evA (CX 59) b20_0).v (evA (CX 59) b20_1).t ds [some (.d s), some .dk, none, none, none, none, none, none, none] (some q1) = some ([], some q1) :=
    comp_none _ fun x hx => repC 59 (by decide) rfl (h1 x hx)
  simp only [bO_some, bO_none, lO_some, lO_none, iB_t, iB_f, thn_nx, thn_rt, thn_bk, thn_ct, endOf_rt, endOf_nx, kLift_a, kOk_a, kO2_a, kIte_t, kIte_f, kIfe_t, kIfe_f, kCall_a, kArgs_a, kArgs2_a, kVals_a, kVals2_a, kOpd_a, kOpd2_a, kDat_a, kDat2_a, kBV_a, kBV2_tt, kBV2_ff, kBV2_tf, kBV2_ft, kBT_tt, kBT_ff, kBT_tf, kBT_ft, kComp_a, kSrc_a, kChain_a, kChain2_a, kChain3_t, kChain3_f, kSet_a, kPar_a, kUnp_a, kFor_a, gV_d, gV_dk, gO_d, gO_o, var_v, var_o, var_t, oV_d, oV_own, tV_d, tV_own, vB_s, oB_s, non_v, non_o, bl_v, bl_o, bl_t, int_v, int_o, str_v, str_o, glb_v, glb_o, tup_v, tup_o, lst_v, lst_o, bin_v, bin_o, bin_t, cmp_t, cmp_v, cmp_o, isN_t, isN_v, isi_t, isi_v, not_t, bop_v, bop_o, bop_t, ife_v, ife_o, idx_v, idx_o, slA_v, slA_o, slB_v, slB_o, call_v, call_o, call_t, callk_v, blt_v, blt_o, comp_v, comp_o, compIf_v, compIf_o, dict0_v, dict1_v, src_eq, rng1_v, zip_v, chain_t, as_nl, as_cs, ds_nl, ds_cs, os_nl, os_cs, vs_nl, vs_cs, es_nl, es_cs, bv_1, bv_2, bt_1, bt_2, s_nil, s_cons, s_set, s_setLc, s_par, s_unp, s_ite, s_loop, s_frz, s_app, rt_non, rt_bl, rt_int, rt_str, rt_glb, rt_tup, rt_lst, rt_bin, rt_cmp, rt_chain, rt_isN, rt_not, rt_bop, rt_ife, rt_idx, rt_slA, rt_slB, rt_call, rt_callk, rt_blt, rt_comp, rt_compIf, rt_isi, gR_s, rt_var, DV.dat, DV.fz, List.getElem?_cons_zero, List.getElem?_cons_succ, List.set_cons_zero, List.set_cons_succ, Option.map_some, Option.map_none, Option.bind_some, Option.bind_none, List.any_cons, List.any_nil, Bool.or_false, Bool.false_or, Bool.or_true, Bool.true_or, Bool.not_true, Bool.not_false, isTy, bltD, blt1, blt2, truthD, intD, setAll, setMany, slAB_v, slAB_o, kSlAB_a, kSlAB0_a, kSlAB1_a, kSlAB2_a, neg_v, neg_o, kNeg_i, notN_t, not_v, s_aug, kAug_a, s_whil, s_brk, s_cont, s_retN, s_popAt, callk_o, kCallk_a, kCallk2_a, dkey_i, dkey_s, kDict_a, kDictU_a, kDict2_d, wp_some, wp_bO, wp_thn, wp_endOf, wp_oV, wp_tV, wp_vB, wp_oB, kW_a, kT_a, kE_a, kOV_a, kTV_a, kVB_a, kOB_a, itemsD, sd, f0, neNN, rng12, rngSrc (show 12 ≤ 100 by decide)]
  refine turns 59 (by decide) s _ _ _ _ _ _ _ q1 (hq1.mono (by decide)) fun x2 x3 x4 x5 x6 x7 x8 q' => ?_
  simp only [bO_some, bO_none, lO_some, lO_none, iB_t, iB_f, thn_nx, thn_rt, thn_bk, thn_ct, endOf_rt, endOf_nx, kLift_a, kOk_a, kO2_a, kIte_t, kIte_f, kIfe_t, kIfe_f, kCall_a, kArgs_a, kArgs2_a, kVals_a, kVals2_a, kOpd_a, kOpd2_a, kDat_a, kDat2_a, kBV_a, kBV2_tt, kBV2_ff, kBV2_tf, kBV2_ft, kBT_tt, kBT_ff, kBT_tf, kBT_ft, kComp_a, kSrc_a, kChain_a, kChain2_a, kChain3_t, kChain3_f, kSet_a, kPar_a, kUnp_a, kFor_a, gV_d, gV_dk, gO_d, gO_o, var_v, var_o, var_t, oV_d, oV_own, tV_d, tV_own, vB_s, oB_s, non_v, non_o, bl_v, bl_o, bl_t, int_v, int_o, str_v, str_o, glb_v, glb_o, tup_v, tup_o, lst_v, lst_o, bin_v, bin_o, bin_t, cmp_t, cmp_v, cmp_o, isN_t, isN_v, isi_t, isi_v, not_t, bop_v, bop_o, bop_t, ife_v, ife_o, idx_v, idx_o, slA_v, slA_o, slB_v, slB_o, call_v, call_o, call_t, callk_v, blt_v, blt_o, comp_v, comp_o, compIf_v, compIf_o, dict0_v, dict1_v, src_eq, rng1_v, zip_v, chain_t, as_nl, as_cs, ds_nl, ds_cs, os_nl, os_cs, vs_nl, vs_cs, es_nl, es_cs, bv_1, bv_2, bt_1, bt_2, s_nil, s_cons, s_set, s_setLc, s_par, s_unp, s_ite, s_loop, s_frz, s_app, rt_non, rt_bl, rt_int, rt_str, rt_glb, rt_tup, rt_lst, rt_bin, rt_cmp, rt_chain, rt_isN, rt_not, rt_bop, rt_ife, rt_idx, rt_slA, rt_slB, rt_call, rt_callk, rt_blt, rt_comp, rt_compIf, rt_isi, gR_s, rt_var, DV.dat, DV.fz, List.getElem?_cons_zero, List.getElem?_cons_succ, List.set_cons_zero, List.set_cons_succ, Option.map_some, Option.map_none, Option.bind_some, Option.bind_none, List.any_cons, List.any_nil, Bool.or_false, Bool.false_or, Bool.or_true, Bool.true_or, Bool.not_true, Bool.not_false, isTy, bltD, blt1, blt2, truthD, intD, setAll, setMany, slAB_v, slAB_o, kSlAB_a, kSlAB0_a, kSlAB1_a, kSlAB2_a, neg_v, neg_o, kNeg_i, notN_t, not_v, s_aug, kAug_a, s_whil, s_brk, s_cont, s_retN, s_popAt, callk_o, kCallk_a, kCallk2_a, dkey_i, dkey_s, kDict_a, kDictU_a, kDict2_d, wp_some, wp_bO, wp_thn, wp_endOf, wp_oV, wp_tV, wp_vB, wp_oB, kW_a, kT_a, kE_a, kOV_a, kTV_a, kVB_a, kOB_a]
theorem run (ns : List Int) (h : ns.length ≤ 63) : ∃ k', callD Pg 60 20 [.d (.list (ns.map .int))] none = some (.d (.bool true), k') := by
  obtain ⟨v, k, e, rfl⟩ := (runW ns h).get
  exact ⟨k, e⟩
end K06

set_option maxHeartbeats 0
namespace K06
open PySem PySem.Spec PyProof.Rows L2 TA
abbrev R : PySem.W.OpenRow := PySem.W.OpenLaw.row PySem.Challenge.rw_throughall_k06_kinds
def hk : PySem.W.Hook := hookT 4 (faOf rows T.fr cs) (rows.map Row.dd) (tbOf cs)
def ob (s : PySem.W.SharedT) : AlT := obsTG 4 (faOf rows T.fr cs) (rows.map Row.dd) (tbOf cs) (HandSHeadRun.getT s)
theorem ob_eq (s : PySem.W.SharedT) : ob s = hk.obs s.abs := obsTG_eq (HandSHeadRun.getT_eq s)
def loose : List Str := ["PLAIN_KINDS", "ROW", "SET", "LONGEST_ROW", "MOST_NESTED", "is_kind_within", "is_kind", "join_kinds", "join_rows", "fits", "_law_deck", "_law_draw", "_law_pick", "_law_kind", "_law_deep", "_law_loosened", "_law_changed", "_law_joined", "_law_is_kind", "_law_odd", "_law_bent", "_law_recognized", "_law_pair_right", "_law_three_right", "_law_deep_things"]
theorem runq (w : World) : HandSHeadRun.RunEq R (PySem.W.view R.prog [27]) hk ob 900 loose w := by
  intro os
  kernel_rfl
end K06
open PySem PySem.W PySem.Calls PyProof.Rows
theorem PySem.Challenge.cw_throughall_k06_kinds_holds : PySem.Challenge.rw_throughall_k06_kinds.Holds := by
  w_on; o_law
  refine HandSHeadRun.head_any (r := OpenLaw.row PySem.Challenge.rw_throughall_k06_kinds) (q := view (OpenLaw.row PySem.Challenge.rw_throughall_k06_kinds).prog [27]) (H := K06.hk) (ob := K06.ob) (M := 900) (loose := K06.loose) (d := HandSHeadRun.topDef (OpenLaw.row PySem.Challenge.rw_throughall_k06_kinds).prog 27) (kwd := []) K06.ob_eq
    (by kernel_rfl) (fun s => by kernel_rfl) K06.runq (by kernel_rfl) (by kernel_rfl) (by kernel_rfl) (by rfl) (by first | assumption | decide +kernel) (by decide +kernel) ⟨rfl, rfl, rfl, rfl, rfl, by decide +kernel⟩ ?hw ?hc
  case hw => w_witness2
  case hc =>
    refine TA.walk_ofG (l := PySem.Challenge.rw_throughall_k06_kinds) (n := 63) (k := 60) (x := "_law_script") rfl (by decide) (by kernel_rfl) ⟨rfl, by decide, by decide⟩ ?F
    intro w mg fa h Y G hmg0
    obtain ⟨K, KX, c⟩ := Y
    have hmg : mg ("law" : PySem.Str) = some (.ref fa) := by
      have e : (HandSHeadRun.topDef (OpenLaw.row PySem.Challenge.rw_throughall_k06_kinds).prog 27).name = ("law" : PySem.Str) := by kernel_rfl
      rw [← e]
      exact hmg0
    exact TA.lawFacts K06.rowsOk (i := 20) (r := K06.r20) KX G c rfl rfl hmg fun ns hl _ => K06.run ns hl

