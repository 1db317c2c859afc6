import PyProof.Rows.All
import Wide.All
import OpenK.AllK
import Wide.FinOn
import PyProof.EqAt
import PyProof.EqKinds
import PyProof.TupleCall
import HandS.ForMost
import HandS.ForExc
import HandS.IsInst
import HandS.Defaults
import HandS.DictComp
import HandS.CallSlots
import HandS.TupAny
import HandS.TupMul
import HandS.Deep
import HandS.RaiseMore
import HandS.Replace
import HandS.Text
import HandS.Exc
import HandS.Flow
import HandS.ExcOwn
import HandS.Ends
import HandS.HeadEnd
import HandS.Head2
import HandS.HeadHook2
import KE.IntTextLaws
import KE.KStrBytes
import PySem.Challenge.RW_gateslack_k01_numbers_and_names
set_option Elab.async false
set_option linter.all false
set_option maxRecDepth 100000
set_option maxHeartbeats 8000000
/-! GS0: pure data, the core language, its evaluator. -/
namespace GS
open PySem

abbrev D := PyData
/-- a def as a value -/
abbrev fnD (f : Str) : D := .dict [(.tuple [], .str f)]

def isFnB : List (D × D) → Bool
  | [(.tuple [], .str _)] => true
  | _ => false
/-- what a frame owns -/
inductive Ob where
  | lst (xs : List D)
  | dic (kvs : List (D × D))
def Ob.toD : Ob → D
  | .lst xs => .list xs
  | .dic kvs => .dict kvs
/-- a slot: nothing known, a value, an object that the frame owns, one that its caller lent -/
inductive Sl where
  | emp
  | val (d : D)
  | own (o : Ob)
  | io (o : Ob)
abbrev Ev := List Sl
/-- what an expression gives: a value, a new object, a slot's object -/
inductive RV where
  | d (d : D)
  | own (o : Ob)
  | sl (i : Nat)
structure Xn where
  cls : Str
  flds : List (Str × D)
inductive Rs (α : Type) where
  | ok (a : α) (s : Ev)
  | er (x : Xn) (s : Ev)
  | stuck
def Rs.bind {α β : Type} (r : Rs α) (f : α → Ev → Rs β) : Rs β :=
  match r with
  | .ok a s => f a s
  | .er x s => .er x s
  | .stuck => .stuck
def Rs.opt {α : Type} (o : Option α) (s : Ev) : Rs α :=
  match o with
  | some a => .ok a s
  | none => .stuck
inductive FR where
  | ok (v : RV) (out : Option Ob)
  | er (x : Xn) (out : Option Ob)
  | stuck
inductive AV where
  | d (d : D)
  | io (o : Ob)
/-- an operand -/
inductive Opd where
  | d (d : D)
  | sl (i : Nat)
inductive Fl where
  | nx
  | ret (v : RV)
  | brk
  | ct
structure Ora where
  Φ : Str → List AV → FR
  Λ : (Ev → Rs Bool) → (Ev → Rs Fl) → Ev → Rs Fl
  G : Str → Option D

def Opd.get (s : Ev) : Opd → Option D
  | .d x => some x
  | .sl i => match s[i]? with
    | some (.val x) => some x
    | some (.own o) => some o.toD
    | some (.io o) => some o.toD
    | _ => none
def RV.opd : RV → Opd
  | .d x => .d x
  | .own o => .d o.toD
  | .sl i => .sl i
def getAll (s : Ev) : List Opd → Option (List D)
  | [] => some []
  | o :: r => match o.get s, getAll s r with
    | some d, some ds => some (d :: ds)
    | _, _ => none
/-- a slot's object as a value from now on -/
def frz : RV → Ev → Rs D
  | .d d, s => .ok d s
  | .own o, s => .ok o.toD s
  | .sl i, s => match s[i]? with
    | some (.val d) => .ok d s
    | some (.own o) => .ok o.toD (s.set i (.val o.toD))
    | _ => .stuck

/-- a slot's object counts as a value from now on -/
def stl : RV → Ev → Rs RV
  | .d d, s => .ok (.d d) s
  | .own o, s => .ok (.own o) s
  | .sl i, s => (frz (.sl i) s).bind fun d s => .ok (.d d) s
/-! ### values -/
def chr1 (c : Nat) : D := .str ⟨#[c]⟩
def D.len : D → Option Nat
  | .str x => some x.length
  | .list xs => some xs.length
  | .tuple xs => some xs.length
  | .dict kvs => if isFnB kvs then none else some kvs.length
  | _ => none
def truD : D → Option Bool
  | .none => some false
  | .bool b => some b
  | .int i => some (i != 0)
  | .str x => some (x.length != 0)
  | .list xs => some (!xs.isEmpty)
  | .tuple xs => some (!xs.isEmpty)
  | .dict kvs => if isFnB kvs then none else some (!kvs.isEmpty)
def mulOk (i j : Int) : Bool := (decide (-(2 ^ 64) < i) && decide (i < 2 ^ 64)) || (decide (-(2 ^ 64) < j) && decide (j < 2 ^ 64))
def repD (xs : List D) (k : Int) : List D := (List.replicate k.toNat xs).flatten
def binD (o : Operator) (x y : D) : Option RV :=
  match o, x, y with
  | .Add, .int i, .int j => some (.d (.int (i + j)))
  | .Sub, .int i, .int j => some (.d (.int (i - j)))
  | .Mult, .int i, .int j => if mulOk i j then some (.d (.int (i * j))) else none
  | .FloorDiv, .int i, .int j => if 0 < j && j < 1073741824 then some (.d (.int (i / j))) else none
  | .Mod, .int i, .int j => if 0 < j then some (.d (.int (i % j))) else none
  | .Pow, .int i, .int j => if 0 ≤ j && j ≤ 1000000 && i.natAbs < 2 ^ 64 then some (.d (.int (i ^ j.toNat))) else none
  | .LShift, .int i, .int j => if 0 ≤ j && j ≤ 1000000 && i.natAbs < 2 ^ 64 then some (.d (.int (i * 2 ^ j.toNat))) else none
  | .RShift, .int i, .int j => if 0 ≤ j then some (.d (.int (i / 2 ^ j.toNat))) else none
  | .BitAnd, .int i, .int j => some (.d (.int (Builtin.bitAnd i j)))
  | .Add, .str a, .str b => if a.length + b.length ≤ sizeLine then some (.d (.str (a ++ b))) else none
  | .Add, .list a, .list b => if a.length + b.length ≤ sizeLine then some (.own (.lst (a ++ b))) else none
  | .Add, .tuple a, .tuple b => if a.length + b.length ≤ sizeLine then some (.d (.tuple (a ++ b))) else none
  | .Mult, .tuple a, .int k => none
  | .Mult, .str a, .int k => if 0 ≤ k && k < 2 ^ 62 && a.length * k.toNat ≤ sizeLine then some (.d (.str ⟨((List.replicate k.toNat a.cps.toList).flatten).toArray⟩)) else none
  | _, _, _ => none
mutual
/-- no dict within: == speaks of such -/
def plainD : D → Bool
  | .dict _ => false
  | .list xs => plainA xs
  | .tuple xs => plainA xs
  | _ => true
def plainA : List D → Bool
  | [] => true
  | x :: r => plainD x && plainA r
end
def eqD (x y : D) : Option Bool :=
  if plainD x && plainD y && decide (min x.depth y.depth ≤ 64) then some (PyData.eqv x y) else none
/-- a key of a dict: a number, a text -/
def keyOk : D → Bool
  | .int _ => true
  | .str _ => true
  | _ => false
def keyEq : D → D → Bool
  | .int i, .int j => decide (i = j)
  | .str a, .str b => decide (a = b)
  | _, _ => false
def lookD (k : D) : List (D × D) → Option D
  | [] => none
  | (j, v) :: r => if keyEq j k then some v else lookD k r
def putD (k v : D) (kvs : List (D × D)) : List (D × D) :=
  if kvs.any fun p => keyEq p.1 k then kvs.map fun p => if keyEq p.1 k then (p.1, v) else p else kvs ++ [(k, v)]
def isIn (x y : D) : Option Bool :=
  match y with
  | .list ys => if plainD x && plainA ys && decide (min (PyData.depthAll ys) x.depth ≤ 64) then some (ys.any fun y => PyData.eqv y x) else none
  | .tuple ys => if plainD x && plainA ys && decide (min (PyData.depthAll ys) x.depth ≤ 64) then some (ys.any fun y => PyData.eqv y x) else none
  | .dict kvs => if keyOk x && !isFnB kvs then some (lookD x kvs).isSome else none
  | .str b => match x with
    | .str a => some (!(Builtin.Str.occurrences b a 0 b.length 1).isEmpty)
    | _ => none
  | _ => none
def ltD (x y : D) : Option Bool :=
  match x, y with
  | .int i, .int j => some (decide (i < j))
  | _, _ => none
def isNonD : D → Bool
  | .none => true
  | _ => false
def cmpD (o : CmpOp) (x y : D) : Option Bool :=
  match o with
  | .Eq => eqD x y
  | .NotEq => (eqD x y).map not
  | .Lt => ltD x y
  | .LtE => match x, y with | .int i, .int j => some (decide (i ≤ j)) | _, _ => none
  | .Gt => match x, y with | .int i, .int j => some (decide (j < i)) | _, _ => none
  | .GtE => match x, y with | .int i, .int j => some (decide (j ≤ i)) | _, _ => none
  | .In => isIn x y
  | .NotIn => (isIn x y).map not
  | .Is => match y with | .none => some (isNonD x) | _ => none
  | .IsNot => match y with | .none => some (!isNonD x) | _ => none
def idxD (x y : D) : Option D :=
  match x, y with
  | .list xs, .int i => L2.atI xs i
  | .tuple xs, .int i => L2.atI xs i
  | .str z, .int i => (L2.atI z.cps.toList i).map chr1
  | .dict kvs, k => if keyOk k && !isFnB kvs then lookD k kvs else none
  | _, _ => none
def partD : List D → Option (Option Int)
  | [] => some none
  | [.int i] => some (some i)
  | _ => none
def cutD (xs : List D) (lo hi : Option Int) : List D := (xs.drop (HT.sIx xs.length 0 lo)).take (HT.sIx xs.length xs.length hi - HT.sIx xs.length 0 lo)
def slcD (x : D) (lo hi : Option Int) : Option RV :=
  match x with
    | .list xs => some (.own (.lst (cutD xs lo hi)))
    | .tuple xs => some (.d (.tuple (cutD xs lo hi)))
    | .str z => some (.d (.str (L2.cutS z lo hi)))
    | _ => none
/-- the built-in types that isinstance names -/
def tyD : D → String
  | .none => "NoneType"
  | .bool _ => "bool"
  | .int _ => "int"
  | .str _ => "str"
  | .list _ => "list"
  | .tuple _ => "tuple"
  | .dict _ => "dict"
def isFnD : D → Bool
  | .dict kvs => isFnB kvs
  | _ => false
def isiD (x : D) (t : String) : Option Bool := if isFnD x then none else some (tyD x == t || (tyD x == "bool" && t == "int"))
def bools : List D → Option (List Bool)
  | [] => some []
  | .bool b :: r => (bools r).map (b :: ·)
  | _ => none
def intsD : List D → Option (List Int)
  | [] => some []
  | .int b :: r => (intsD r).map (b :: ·)
  | _ => none
def strsD : List D → Option (List Str)
  | [] => some []
  | .str b :: r => (strsD r).map (b :: ·)
  | _ => none
def seqD : D → Option (List D)
  | .list xs => some xs
  | .tuple xs => some xs
  | _ => none
def lstD : D → Option (List D)
  | .list xs => some xs
  | _ => none
def b2iD (b : Bool) : Int := if b then 1 else 0
/-- built-in functions -/
def biD (f : String) (ds : List D) : Option RV :=
  match f, ds with
  | "len", [x] => x.len.map fun n => .d (.int n)
  | "all", [x] => ((lstD x).bind bools).map fun bs => .d (.bool (bs.all id))
  | "any", [x] => ((lstD x).bind bools).map fun bs => .d (.bool (bs.any id))
  | "sum", [x] => ((lstD x).bind intsD).map fun ns => .d (.int ns.sum)
  | "min", [.int i, .int j] => some (.d (.int (if j < i then j else i)))
  | "max", [.int i, .int j] => some (.d (.int (if j > i then j else i)))
  | "abs", [.int i] => some (.d (.int (if i < 0 then -i else i)))
  | "int", [.int i] => some (.d (.int i))
  | "int", [.bool b] => some (.d (.int (b2iD b)))
  | "int", [.str a] => if a.length ≤ 640 then (intText? a).map fun n => .d (.int n) else none
  | "str", [.int i] => if i.natAbs.log2 < 1920 && PyData.strOk (Str.ofString (toString i)) then some (.d (.str (toString i))) else none
  | "list", [x] => (seqD x).map fun xs => .own (.lst xs)
  | "tuple", [x] => (seqD x).map fun xs => .d (.tuple xs)
  | "str", [.str a] => some (.d (.str a))
  | "bool", [.int i] => some (.d (.bool (i != 0)))
  | "bool", [.bool i] => some (.d (.bool i))
  | "repr", [x] => if x.showable && plainD x && decide (x.depth ≤ 60) && decide (x.shown.length ≤ sizeLine) && PyData.strOk x.shown then some (.d (.str x.shown)) else none
  | _, _ => none
/-- methods that change nothing -/
def methD (m : String) (x : D) (ds : List D) : Option RV :=
  match m, x, ds with
  | "startswith", .str a, [.str b] => some (.d (.bool (Txt.startswith a b)))
  | "join", .str a, [y] => ((seqD y).bind strsD).bind fun ys => if (ys.map (·.length)).sum + ys.length * a.length ≤ 16777216 && decide ((Txt.join a ys).length ≤ sizeLine) && PyData.strOk (Txt.join a ys) then some (.d (.str (Txt.join a ys))) else none
  | "index", .str a, [.str b] => match Builtin.Str.occurrences a b 0 a.length 1 with
    | i :: _ => some (.d (.int (i : Nat)))
    | [] => none
  | "endswith", .str a, [.str b] => some (.d (.bool (Txt.endswith a b)))
  | "find", .str a, [.str b] => some (.d (.int (Txt.find a b)))
  | "count", .str a, [.str b] => some (.d (.int (Txt.count a b)))
  | "get", .dict kvs, [k] => if keyOk k && !isFnB kvs then some (.d ((lookD k kvs).getD .none)) else none
  | "get", .dict kvs, [k, v] => if keyOk k && !isFnB kvs then some (.d ((lookD k kvs).getD v)) else none
  | _, _, _ => none
/-- the receiver is of the type at once -/
def mtOf (m : String) : D → Bool
  | .str _ => m != "get"
  | .dict kvs => m == "get" && !isFnB kvs
  | _ => false
def isLst : Option Ob → Bool
  | some (.lst _) => true
  | _ => false
/-- methods and stores that change the object -/
def mutD (m : String) (o : Ob) (ds : List D) : Option (D × Ob) :=
  match m, o, ds with
  | "append", .lst xs, [y] => if xs.length < sizeLine then some (.none, .lst (xs ++ [y])) else none
  | "pop", .lst xs, [] => (xs[xs.length - 1]?).map fun y => (y, .lst xs.dropLast)
  | "setitem", .dic kvs, [k, v] => if keyOk k && decide (kvs.length < sizeLine) then some (.none, .dic (putD k v kvs)) else none
  | _, _, _ => none
def itemsD : D → Option (List D)
  | .list xs => some xs
  | .tuple xs => some xs
  | .str z => some (z.cps.toList.map chr1)
  | _ => none

/-! ### the core language -/
/-- how a parameter is filled -/
inductive PA where
  | pos (k : Nat)
  | io (k : Nat)
  | dfl (d : D)
/-- a target -/
inductive CT where
  | nm (i : Nat)
  | tup (is : List Nat)
mutual
inductive CE where
  | con (d : D)
  | var (i : Nat)
  | glob (x : Str)
  | bin (o : Operator) (a b : CE)
  | rep (a b : CE)
  | neg (a : CE)
  | not (a : CE)
  | cmp (o : CmpOp) (a b : CE)
  | chain (o p : CmpOp) (a b c : CE)
  | and (a b : CE)
  | or (a b : CE)
  | ite (c a b : CE)
  | tup (es : CEs)
  | lst (es : CEs)
  | dic (ks : List D) (vs : CEs)
  | idx (a b : CE)
  | slc (a : CE) (l h : CEs)
  | isi (a : CE) (t : String)
  | bi (f : String) (es : CEs)
  | call (f : Str) (es : CEs) (ps : List PA)
  | meth (m : String) (a : CE) (es : CEs)
  | mut (m : String) (i : Nat) (es : CEs)
  | ext (i : Nat) (e : CE)
  | comp (ow : List Nat) (tg : CT) (it : CI) (ifs : CEs) (e : CE)
inductive CEs where
  | nil
  | cons (e : CE) (r : CEs)
inductive CI where
  | v (e : CE)
  | rng1 (a : CE)
  | rng2 (a b : CE)
end
mutual
inductive CS where
  | ret (e : CE)
  | retN
  | ex (e : CE)
  | set (i : Nat) (e : CE)
  | tset (tg : CT) (e : CE)
  | par (i j : Nat) (a b : CE)
  | dput (i : Nat) (k v : CE)
  | ife (c : CE) (a b : CSs)
  | for_ (tg : CT) (it : CI) (b : CSs)
  | whl (c : CE) (b : CSs)
  | pss
  | brk
  | ct
inductive CSs where
  | nil
  | cons (s : CS) (r : CSs)
end

/-! ### the evaluator -/
def wipeS (s : Ev) : List Nat → Ev
  | [] => s
  | i :: r => (wipeS s r).set i .emp
/-- the slots of a comprehension's own names as they were -/
def backS (s0 : Ev) (s : Ev) : List Nat → Ev
  | [] => s
  | i :: r => (backS s0 s r).set i ((s0[i]?).getD .emp)
def isOwn : Option Sl → Bool
  | some (.own _) => true
  | some (.io _) => true
  | _ => false
def isIo : Option Sl → Bool
  | some (.io _) => true
  | _ => false
/-- a value goes to a slot -/
def putS (i : Nat) (x : Sl) (s : Ev) : Rs Unit := if decide (i < s.length) && !isIo s[i]? then .ok () (s.set i x) else .stuck
def putV (i : Nat) (v : RV) (s : Ev) : Rs Unit :=
  match v with
  | .own o => putS i (.own o) s
  | v => (frz v s).bind fun d s => putS i (.val d) s
def bindAll : List Nat → List D → Ev → Rs Unit
  | [], [], s => .ok () s
  | i :: is, d :: ds, s => (putS i (.val d) s).bind fun _ s => bindAll is ds s
  | _, _, _ => .stuck
def bindT (tg : CT) (d : D) (s : Ev) : Rs Unit :=
  match tg with
  | .nm i => putS i (.val d) s
  | .tup is => match d with
    | .tuple ds => bindAll is ds s
    | _ => .stuck
def ownAt (s : Ev) (i : Nat) : Option Ob :=
  match s[i]? with
  | some (.own o) => some o
  | some (.io o) => some o
  | _ => none
/-- a value for a call: no owned object -/
def getV (s : Ev) : Opd → Option D
  | .d x => some x
  | .sl i => match s[i]? with
    | some (.val x) => some x
    | _ => none
/-- the owned objects that go as values are values from now on -/
def frzA (os : List Opd) : List PA → Ev → Ev
  | [], s => s
  | .pos k :: r, s => match os[k]? with
    | some (.sl i) => match s[i]? with
      | some (.own o) => frzA os r (s.set i (.val o.toD))
      | _ => frzA os r s
    | _ => frzA os r s
  | _ :: r, s => frzA os r s
def argsOf (s : Ev) (os : List Opd) : List PA → Option (List AV)
  | [] => some []
  | .pos k :: r => match (os[k]?).bind (getV s), argsOf s os r with
    | some d, some as => some (.d d :: as)
    | _, _ => none
  | .dfl d :: r => (argsOf s os r).map (.d d :: ·)
  | .io k :: r => match os[k]?, argsOf s os r with
    | some (.sl i), some as => (ownAt s i).map fun o => .io o :: as
    | _, _ => none
/-- the slot that is lent -/
def lentOf (os : List Opd) : List PA → Option Nat
  | [] => none
  | .io k :: _ => match os[k]? with
    | some (.sl i) => some i
    | _ => none
  | _ :: r => lentOf os r
/-- no reference within -/
def flatR : RV → Bool
  | .d .none => true
  | .d (.bool _) => true
  | .d (.int _) => true
  | .d (.str _) => true
  | _ => false
def setOb (s : Ev) (i : Nat) (o : Ob) : Ev :=
  match s[i]? with
  | some (.io _) => s.set i (.io o)
  | _ => s.set i (.own o)
def outTo (s : Ev) (l : Option Nat) (out : Option Ob) : Option Ev :=
  match l, out with
  | none, none => some s
  | some i, some o => some (setOb s i o)
  | _, _ => none
def tgIn (ow : List Nat) : CT → Bool
  | .nm i => ow.contains i
  | .tup is => is.all ow.contains
def wipeC (ow : List Nat) (s : Ev) : Rs Unit := if ow.any (fun i => isOwn s[i]?) then .stuck else .ok () (wipeS s ow)
/-- the turns of a comprehension: each starts with the own slots forgotten -/
def compL (ow : List Nat) (tg : CT) (tests : Ev → Rs Bool) (elt : Ev → Rs D) : List D → List D → Ev → Rs (List D)
  | [], acc, s => .ok acc s
  | x :: r, acc, s => (bindT tg x s).bind fun _ s => (tests s).bind fun b s => match b with
    | true => (elt s).bind fun d s => if acc.length < sizeLine then (wipeC ow s).bind fun _ s => compL ow tg tests elt r (acc ++ [d]) s else .stuck
    | false => (wipeC ow s).bind fun _ s => compL ow tg tests elt r acc s
def noX {α : Type} : Rs α → Rs α
  | .er _ _ => .stuck
  | r => r
def frzL : List RV → Ev → Rs (List D)
  | [], s => .ok [] s
  | x :: r, s => (frz x s).bind fun d s => (frzL r s).bind fun ds s => .ok (d :: ds) s
def mergeD (kvs : List (D × D)) : List (D × D) → List (D × D)
  | [] => kvs
  | (k, v) :: r => mergeD (putD k v kvs) r
mutual
def ev (O : Ora) : CE → Ev → Rs RV
  | .con d, s => .ok (.d d) s
  | .var i, s => match s[i]? with
    | some (.val d) => .ok (.d d) s
    | some (.own _) => .ok (.sl i) s
    | some (.io _) => .ok (.sl i) s
    | _ => .stuck
  | .glob x, s => Rs.opt ((O.G x).map RV.d) s
  | .bin o a b, s => (ev O a s).bind fun x s => (ev O b s).bind fun y s => match x.opd.get s, y.opd.get s with
    | some x, some y => Rs.opt (binD o x y) s
    | _, _ => .stuck
  | .rep a b, s => (ev O a s).bind fun x s => match x with
    | .own (.lst xs) => (ev O b s).bind fun y s => match y.opd.get s with
      | some (.int k) => if -(2 ^ 63) ≤ k && k < 2 ^ 63 && xs.length * k.toNat ≤ sizeLine then .ok (.own (.lst (repD xs k))) s else .stuck
      | _ => .stuck
    | _ => .stuck
  | .neg a, s => (ev O a s).bind fun x s => match x with
    | .d (.int i) => .ok (.d (.int (-i))) s
    | _ => .stuck
  | .not a, s => (ev O a s).bind fun x s => Rs.opt (((x.opd.get s).bind truD).map fun b => .d (.bool (!b))) s
  | .cmp o a b, s => (ev O a s).bind fun x s => (ev O b s).bind fun y s => match x.opd.get s, y.opd.get s with
    | some x, some y => Rs.opt ((cmpD o x y).map fun c => .d (.bool c)) s
    | _, _ => .stuck
  | .chain o p a b c, s => (ev O a s).bind fun x s => (ev O b s).bind fun y s => match x.opd.get s, y.opd.get s with
    | some x', some y' => match cmpD o x' y' with
      | some true => (ev O c s).bind fun z s => match y.opd.get s, z.opd.get s with
        | some y, some z => Rs.opt ((cmpD p y z).map fun c => .d (.bool c)) s
        | _, _ => .stuck
      | some false => .ok (.d (.bool false)) s
      | none => .stuck
    | _, _ => .stuck
  | .and a b, s => (ev O a s).bind fun x s => match (x.opd.get s).bind truD with
    | some true => ev O b s
    | some false => .ok x s
    | none => .stuck
  | .or a b, s => (ev O a s).bind fun x s => match (x.opd.get s).bind truD with
    | some true => .ok x s
    | some false => ev O b s
    | none => .stuck
  | .ite c a b, s => (ev O c s).bind fun x s => match (x.opd.get s).bind truD with
    | some true => ev O a s
    | some false => ev O b s
    | none => .stuck
  | .tup es, s => (evs O es s).bind fun vs s => (frzL vs s).bind fun ds s => if ds.length ≤ sizeLine then .ok (.d (.tuple ds)) s else .stuck
  | .lst es, s => (evs O es s).bind fun vs s => (frzL vs s).bind fun ds s => if ds.length ≤ sizeLine then .ok (.own (.lst ds)) s else .stuck
  | .dic ks vs, s => (evs O vs s).bind fun vs s => (frzL vs s).bind fun ds s => if ks.all keyOk && decide (ks.length = ds.length) && decide (ks.length ≤ 15) then .ok (.own (.dic (mergeD [] (ks.zip ds)))) s else .stuck
  | .idx a b, s => (ev O a s).bind fun x s => (ev O b s).bind fun y s => match x.opd.get s, y.opd.get s with
    | some x, some y => Rs.opt ((idxD x y).map RV.d) s
    | _, _ => .stuck
  | .slc a l h, s => (ev O a s).bind fun x s => (evs O l s).bind fun y s => match (getAll s (y.map RV.opd)).bind partD with
    | some lo => (evs O h s).bind fun z s => match x.opd.get s, (getAll s (z.map RV.opd)).bind partD with
      | some x, some hi => Rs.opt (slcD x lo hi) s
      | _, _ => .stuck
    | none => .stuck
  | .isi a t, s => (ev O a s).bind fun x s => Rs.opt (((x.opd.get s).bind fun d => isiD d t).map fun c => .d (.bool c)) s
  | .bi f es, s => (evs O es s).bind fun os s => Rs.opt ((getAll s (os.map RV.opd)).bind (biD f)) s
  | .call f es ps, s => (evs O es s).bind fun os s => match argsOf (frzA (os.map RV.opd) ps s) (os.map RV.opd) ps with
    | some as => match O.Φ f as with
      | .ok v out => match outTo (frzA (os.map RV.opd) ps s) (lentOf (os.map RV.opd) ps) out with
        | some s' => if flatR v && (lentOf (os.map RV.opd) ps).isNone then .ok v s else .ok v s'
        | none => .stuck
      | .er x out => match outTo (frzA (os.map RV.opd) ps s) (lentOf (os.map RV.opd) ps) out with
        | some s' => .er x s'
        | none => .stuck
      | .stuck => .stuck
    | none => .stuck
  | .meth m a es, s => (ev O a s).bind fun x s => if (x.opd.get s).map (mtOf m) != some true then .stuck else (evs O es s).bind fun os s => (if m == "get" then frzL os s else Rs.opt (getAll s (os.map RV.opd)) s).bind fun ds s => match x.opd.get s with
    | some x => Rs.opt (methD m x ds) s
    | none => .stuck
  | .mut m i es, s => if !isLst (ownAt s i) then .stuck else (evs O es s).bind fun os s => (frzL os s).bind fun ds s => match ownAt s i with
    | some (.lst xs) => match mutD m (.lst xs) ds with
      | some (d, o') => .ok (.d d) (setOb s i o')
      | none => .stuck
    | _ => .stuck
  | .ext i e, s => if !isLst (ownAt s i) then .stuck else (ev O e s).bind fun x s => match x, ownAt s i with
    | .own (.lst ys), some (.lst xs) => if xs.length + ys.length ≤ sizeLine then .ok (.d .none) (setOb s i (.lst (xs ++ ys))) else .stuck
    | _, _ => .stuck
  | .comp ow tg it ifs e, s => (evI O it s).bind fun xs s0 => if !tgIn ow tg then .stuck else (wipeC ow s0).bind fun _ s =>
    noX ((compL ow tg (fun s => evT O ifs s) (fun s => (ev O e s).bind frz) xs [] s).bind fun acc s' => .ok (.own (.lst acc)) (backS s0 s' ow))
def evs (O : Ora) : CEs → Ev → Rs (List RV)
  | .nil, s => .ok [] s
  | .cons e r, s => (ev O e s).bind fun x s => (evs O r s).bind fun vs s => .ok (x :: vs) s
/-- tests one behind another -/
def evT (O : Ora) : CEs → Ev → Rs Bool
  | .nil, s => .ok true s
  | .cons e r, s => (ev O e s).bind fun x s => match (x.opd.get s).bind truD with
    | some true => evT O r s
    | some false => .ok false s
    | none => .stuck
def evI (O : Ora) : CI → Ev → Rs (List D)
  | .v e, s => (ev O e s).bind fun x s => (frz x s).bind fun d s => Rs.opt (itemsD d) s
  | .rng1 a, s => (ev O a s).bind fun x s => match x.opd.get s with
    | some (.int j) => if -(2 ^ 62) ≤ j && j < 2 ^ 62 then .ok ((List.range j.toNat).map fun (k : Nat) => PyData.int (k : Int)) s else .stuck
    | _ => .stuck
  | .rng2 a b, s => (ev O a s).bind fun x s => (ev O b s).bind fun y s => match x.opd.get s, y.opd.get s with
    | some (.int i), some (.int j) => if -(2 ^ 62) ≤ i && i < 2 ^ 62 && -(2 ^ 62) ≤ j && j < 2 ^ 62 then .ok ((List.range (j - i).toNat).map fun (k : Nat) => PyData.int (i + (k : Int))) s else .stuck
    | _, _ => .stuck
end
def forL (bind : D → Ev → Rs Unit) (body : Ev → Rs Fl) : List D → Ev → Rs Fl
  | [], s => .ok .nx s
  | x :: r, s => (bind x s).bind fun _ s => (body s).bind fun f s => match f with
    | .nx => forL bind body r s
    | .ct => forL bind body r s
    | .brk => .ok .nx s
    | .ret v => .ok (.ret v) s
def retV (v : RV) (s : Ev) : Rs Fl :=
  match v with
  | .own o => .ok (.ret (.own o)) s
  | .d d => .ok (.ret (.d d)) s
  | .sl i => match s[i]? with
    | some (.own o) => .ok (.ret (.own o)) (s.set i .emp)
    | some (.val d) => .ok (.ret (.d d)) s
    | _ => .stuck
def evB (O : Ora) (c : CE) (s : Ev) : Rs Bool := (ev O c s).bind fun x s => Rs.opt ((x.opd.get s).bind truD) s
mutual
def exS (O : Ora) : CS → Ev → Rs Fl
  | .ret e, s => (ev O e s).bind retV
  | .retN, s => .ok (.ret (.d .none)) s
  | .ex e, s => (ev O e s).bind fun _ s => .ok .nx s
  | .set i e, s => (ev O e s).bind fun v s => (putV i v s).bind fun _ s => .ok .nx s
  | .tset tg e, s => (ev O e s).bind fun v s => (frz v s).bind fun d s => (bindT tg d s).bind fun _ s => .ok .nx s
  | .par i j a b, s => (ev O a s).bind fun x s => (stl x s).bind fun x s => (ev O b s).bind fun y s => (stl y s).bind fun y s => (putV i x s).bind fun _ s => (putV j y s).bind fun _ s => .ok .nx s
  | .dput i k v, s => (ev O v s).bind fun x s => (frz x s).bind fun x s => if (ownAt s i).isNone then .stuck else (ev O k s).bind fun y s => (frz y s).bind fun y s => match ownAt s i with
    | some o => match mutD "setitem" o [y, x] with
      | some (_, o') => .ok .nx (setOb s i o')
      | none => .stuck
    | none => .stuck
  | .ife c a b, s => (evB O c s).bind fun t s => if t then exB O a s else exB O b s
  | .for_ tg it b, s => (evI O it s).bind fun xs s => forL (bindT tg) (fun s => exB O b s) xs s
  | .whl c b, s => O.Λ (fun s => evB O c s) (fun s => exB O b s) s
  | .pss, s => .ok .nx s
  | .brk, s => .ok .brk s
  | .ct, s => .ok .ct s
def exB (O : Ora) : CSs → Ev → Rs Fl
  | .nil, s => .ok .nx s
  | .cons a r, s => (exS O a s).bind fun f s => match f with
    | .nx => exB O r s
    | f => .ok f s
end

/-! ### defs -/
structure FD where
  n : Nat
  ps : Nat
  io : Option Nat
  body : CSs
def slOf : AV → Sl
  | .d d => .val d
  | .io o => .io o
def outOf (s : Ev) (io : Option Nat) : Option Ob := io.bind (ownAt s)
def ioFits (as : List AV) (io : Option Nat) : Bool := (match io with | none => true | some j => decide (j < as.length)) && (List.range as.length).all fun i => match as[i]? with
  | some (.io _) => io == some i
  | _ => io != some i
def startS (n : Nat) (as : List AV) : Ev := as.map slOf ++ List.replicate (n - as.length) .emp
def endF (io : Option Nat) : Rs Fl → FR
  | .ok (.ret v) s => .ok v (outOf s io)
  | .ok .nx s => .ok (.d .none) (outOf s io)
  | .er x s => .er x (outOf s io)
  | _ => .stuck
/-- the program: its defs, loops, constants -/
structure Prog where
  fs : Str → Option FD
  Λ : (Ev → Rs Bool) → (Ev → Rs Fl) → Ev → Rs Fl
  G : Str → Option D
def run (p : Prog) : Nat → Str → List AV → FR
  | 0, _, _ => .stuck
  | k + 1, f, as => match p.fs f with
    | some fd => if decide (as.length = fd.ps) && decide (fd.ps ≤ fd.n) && ioFits as fd.io then endF fd.io (exB ⟨run p k, p.Λ, p.G⟩ fd.body (startS fd.n as)) else .stuck
    | none => .stuck
/-- a loop with fuel (to try things) -/
def whileN (n : Nat) (c : Ev → Rs Bool) (b : Ev → Rs Fl) (s : Ev) : Rs Fl :=
  match n with
  | 0 => .stuck
  | n + 1 => (c s).bind fun t s => if t then (b s).bind fun f s => match f with
    | .nx => whileN n c b s
    | .ct => whileN n c b s
    | .brk => .ok .nx s
    | .ret v => .ok (.ret v) s
    else .ok .nx s
open Classical in
/-- a loop: some fuel is enough -/
noncomputable def whileW (c : Ev → Rs Bool) (b : Ev → Rs Fl) (s : Ev) : Rs Fl := if h : ∃ n, whileN n c b s ≠ .stuck then whileN (Classical.choose h) c b s else .stuck
end GS

/-! GS1: from the model's text to the core language. -/
namespace GS
open PySem

def dfOk : PA → Bool
  | .dfl d => match d with | .none => true | .bool _ => true | .int _ => true | .str x => PyData.strOk x && decide (x.length ≤ sizeLine) | _ => false
  | _ => true
structure Sig where
  ps : List Str
  npos : Nat
  dfl : List (Option D)
  io : Option Nat
structure Tabs where
  /-- own defs -/
  sig : List (Str × Sig)
  /-- the calls whose binding is shown: how many positional values, which keywords -/
  pats : List (Str × Nat × List Str)
  /-- built-in names that the module does not bind -/
  free : List Str
  /-- constants of the module -/
  con : List Str
structure Scp where
  sc : Scope
  fn : Str → Bool

def visB (sc : Scope) (x : Str) : Bool :=
  match sc.names.lookup x with
  | some .local => true
  | some .cell => true
  | some .free => true
  | _ => false
def locB (S : Scp) (x : Str) : Bool :=
  match S.sc.names.lookup x with
  | some .local => true
  | some .cell => S.fn x
  | _ => false
def glB (sc : Scope) (x : Str) : Bool := sc.names.lookup x == some .globalImplicit
def plainN (x : Str) : Bool := (x == ("__debug__" : Str)) == false && (x == ("__classdict__" : Str)) == false && (x == ("__name__" : Str)) == false
/-- a name's slot -/
def slotOf (N : List Str) (S : Scp) (x : Str) : Option Nat := if visB S.sc x && plainN x then N.idxOf? x else none
def tgtOf (N : List Str) (S : Scp) (x : Str) : Option Nat := if locB S x && plainN x then N.idxOf? x else none
def trTgts (N : List Str) (S : Scp) : List Expr → Option (List Nat)
  | [] => some []
  | .Name x _ :: r => match tgtOf N S x, trTgts N S r with
    | some i, some is => some (i :: is)
    | _, _ => none
  | _ => none
def trTgt (N : List Str) (S : Scp) : Expr → Option CT
  | .Name x _ => (tgtOf N S x).map .nm
  | .Tuple es _ _ => (trTgts N S es).map .tup
  | _ => none
def conD : Const → Option D
  | .none => some .none
  | .bool b => some (.bool b)
  | .int i => some (.int i)
  | .str s => if PyData.strOk s && decide (s.length ≤ sizeLine) then some (.str s) else none
  | _ => none
def kwNames : List Keyword → Option (List Str)
  | [] => some []
  | ⟨some x, _, _⟩ :: r => (kwNames r).map (x :: ·)
  | _ => none
def permOf (g : Sig) (m : Nat) (ks : List Str) : Option (List PA) :=
  if decide (m ≤ g.npos) && ks.all (fun k => g.ps.contains k && decide (m ≤ g.ps.idxOf k)) then
    (List.range g.ps.length).mapM fun j =>
      if j < m then some (if g.io = some j then PA.io j else PA.pos j)
      else match ks.idxOf? (g.ps.getD j default) with
        | some k => some (if g.io = some j then PA.io (m + k) else PA.pos (m + k))
        | none => (g.dfl.getD j none).map PA.dfl
  else none
/-- the own names of a comprehension's block, with their slots -/
def ownOf (N : List Str) (scope : Scope) : List (Str × Nat) := scope.names.filterMap fun y => match y.2 with
  | .local => (N.idxOf? y.1).map fun i => (y.1, i)
  | .cell => (N.idxOf? y.1).map fun i => (y.1, i)
  | _ => none
def biNames : List String := ["len", "all", "any", "sum", "min", "max", "abs", "int", "str", "list", "tuple", "repr", "bool"]
def methNames : List String := ["startswith", "join", "get", "index", "endswith", "find", "count"]
def mutNames : List String := ["append", "pop"]
def tyNames : List String := ["int", "bool", "str", "list", "tuple", "dict"]
def nameIn (x : Str) (l : List String) : Option String := l.find? fun s => x == Str.ofString s
/-- not super() -/
def noCall0 : Expr → Bool
  | .Call _ [] [] _ => false
  | _ => true
def isiArgs : List Expr → Option (Expr × Str)
  | [a, .Name t _] => some (a, t)
  | _ => none
def nameOf : Expr → Option Str
  | .Name y _ => some y
  | _ => none
def isMul : Operator → Bool
  | .Mult => true
  | _ => false
/-- a list just made -/
def isNewL : Expr → Bool
  | .List .. => true
  | .ListComp .. => true
  | _ => false
def oneOf : List Expr → Option Expr
  | [a] => some a
  | _ => none
def unStarred (es : List Expr) : Bool := es.all fun | .Starred _ _ => false | _ => true
mutual
def trE (T : Tabs) (N : List Str) : Nat → Scp → Expr → Option CE
  | 0, _, _ => none
  | n + 1, S, e => match e with
    | .Constant c _ _ => (conD c).map .con
    | .Name x _ => match slotOf N S x with
      | some i => some (.var i)
      | none => if glB S.sc x && plainN x && T.con.contains x then some (.glob x) else none
    | .BinOp a op b _ => match trE T N n S a, trE T N n S b with
      | some ca, some cb => some (if isMul op && isNewL a then .rep ca cb else .bin op ca cb)
      | _, _ => none
    | .UnaryOp .USub a _ => (trE T N n S a).map .neg
    | .UnaryOp .Not a _ => (trE T N n S a).map .not
    | .BoolOp _ [a] _ => trE T N n S a
    | .BoolOp .And (a :: b :: r) p => match trE T N n S a, trE T N n S (.BoolOp .And (b :: r) p) with
      | some a, some b => some (.and a b)
      | _, _ => none
    | .BoolOp .Or (a :: b :: r) p => match trE T N n S a, trE T N n S (.BoolOp .Or (b :: r) p) with
      | some a, some b => some (.or a b)
      | _, _ => none
    | .Compare a [op] [b] _ => match trE T N n S a, trE T N n S b with
      | some a, some b => some (.cmp op a b)
      | _, _ => none
    | .Compare a [op, op'] [b, c] _ => match trE T N n S a, trE T N n S b, trE T N n S c with
      | some a, some b, some c => some (.chain op op' a b c)
      | _, _, _ => none
    | .IfExp c a b _ => match trE T N n S c, trE T N n S a, trE T N n S b with
      | some c, some a, some b => some (.ite c a b)
      | _, _, _ => none
    | .Tuple es _ _ => (trEs T N n S es).map .tup
    | .List es _ => (trEs T N n S es).map .lst
    | .Dict ks vs _ => match trKs ks, trEs T N n S vs with
      | some es, some fs => if ks.length == vs.length && decide (ks.length ≤ 15) then some (.dic es fs) else none
      | _, _ => none
    | .Subscript a (.Slice l h none _) _ => match trE T N n S a, trO T N n S l, trO T N n S h with
      | some a, some l, some h => some (.slc a l h)
      | _, _, _ => none
    | .Subscript a b _ => match trE T N n S a, trE T N n S b with
      | some a, some b => some (.idx a b)
      | _, _ => none
    | .ListComp elt [⟨tg, iter, ifs, 0⟩] scope _ =>
      let own := ownOf N scope
      let S' : Scp := ⟨L2.relS scope S.sc, fun x => scope.names.lookup x == some .cell⟩
      if L2.blkC N S.sc scope own && decide (ifs.length ≤ 1) then
        match trTgt N S' tg, trI T N n S iter, trEs T N n S' ifs, trE T N n S' elt with
        | some tg, some it, some ifs, some elt => some (.comp (own.map (·.2)) tg it ifs elt)
        | _, _, _, _ => none
      else none
    | .Call (.Name x _) args kws pos =>
      if glB S.sc x && plainN x then
        match T.sig.lookup x with
        | some g => match kwNames kws, trEs T N n S args, trKws T N n S kws with
          | some ks, some es, some fs => if T.pats.contains (x, args.length, ks) && (!args.isEmpty || kws.isEmpty) then (permOf g args.length ks).bind fun ps => if ps.all dfOk then some (.call x (appE es fs) ps) else none else none
          | _, _, _ => none
        | none => if T.free.contains x && kws.isEmpty then
            if x == Str.ofString "isinstance" then
              match isiArgs args with
              | some (a, t) => match nameIn t tyNames, trE T N n S a with
                | some ty, some a => if T.free.contains t && glB S.sc t && plainN t then some (.isi a ty) else none
                | _, _ => none
              | none => none
            else match nameIn x biNames, trEs T N n S args with
              | some f, some es => if args.isEmpty then none else some (.bi f es)
              | _, _ => none
          else none
      else none
    | .Call (.Attribute o m apos) args [] pos =>
      if apos.endLine == pos.line then
        if m == Str.ofString "extend" then match (nameOf o).bind (slotOf N S), (oneOf args).bind (trE T N n S) with
          | some i, some e => some (.ext i e)
          | _, _ => none
        else match nameIn m mutNames with
        | some m => match (nameOf o).bind (slotOf N S), trEs T N n S args with
            | some i, some es => if decide (args.length < 30) then some (.mut m i es) else none
            | _, _ => none
        | none => match nameIn m methNames, trE T N n S o, trEs T N n S args with
          | some m, some a, some es => if noCall0 o && !args.isEmpty && decide (args.length < 30) then some (.meth m a es) else none
          | _, _, _ => none
      else none
    | _ => none
def trEs (T : Tabs) (N : List Str) : Nat → Scp → List Expr → Option CEs
  | 0, _, _ => none
  | _ + 1, _, [] => some .nil
  | n + 1, S, e :: r => match trE T N n S e, trEs T N n S r with
    | some e, some r => some (.cons e r)
    | _, _ => none
def trKws (T : Tabs) (N : List Str) : Nat → Scp → List Keyword → Option CEs
  | 0, _, _ => none
  | _ + 1, _, [] => some .nil
  | n + 1, S, ⟨_, e, _⟩ :: r => match trE T N n S e, trKws T N n S r with
    | some e, some r => some (.cons e r)
    | _, _ => none
def trO (T : Tabs) (N : List Str) : Nat → Scp → Option Expr → Option CEs
  | 0, _, _ => none
  | _ + 1, _, none => some .nil
  | n + 1, S, some e => (trE T N n S e).map fun e => .cons e .nil
def trI (T : Tabs) (N : List Str) : Nat → Scp → Expr → Option CI
  | 0, _, _ => none
  | n + 1, S, e => match e with
    | .Call (.Name x _) args [] _ =>
      if x == Str.ofString "range" then
        if glB S.sc x && T.free.contains x then match args with
          | [a] => (trE T N n S a).map .rng1
          | [a, b] => match trE T N n S a, trE T N n S b with
            | some a, some b => some (.rng2 a b)
            | _, _ => none
          | _ => none
        else none
      else (trE T N n S e).map .v
    | e => (trE T N n S e).map .v
def trKs : List (Option Expr) → Option (List D)
  | [] => some []
  | some (.Constant c _ _) :: r => match conD c, trKs r with
    | some d, some ds => if keyOk d then some (d :: ds) else none
    | _, _ => none
  | _ => none
def appE : CEs → CEs → CEs
  | .nil, f => f
  | .cons e r, f => .cons e (appE r f)
end
def isComp : Expr → Bool
  | .ListComp .. => true
  | .SetComp .. => true
  | .DictComp .. => true
  | _ => false
def nodupB : List Nat → Bool
  | [] => true
  | i :: r => !r.contains i && nodupB r
def allLocal (sc : Scope) : List Expr → Bool
  | [] => true
  | .Name x _ :: r => sc.names.lookup x == some .local && allLocal sc r
  | _ => false
def sameLine : List Expr → Bool
  | .Name _ p :: r => r.all fun | .Name _ q => q.line == p.line | _ => false
  | _ => false
mutual
def trS (T : Tabs) (N : List Str) : Nat → Scp → Stmt → Option CS
  | 0, _, _ => none
  | n + 1, S, s => match s with
    | .Return none _ => some .retN
    | .Return (some e) _ => (trE T N n S e).map .ret
    | .Pass _ => some .pss
    | .Break _ => some .brk
    | .Continue _ => some .ct
    | .Expr e _ => if isComp e then none else (trE T N n S e).map .ex
    | .Assign [.Name x _] e _ => match tgtOf N S x, trE T N n S e with
      | some i, some e => some (.set i e)
      | _, _ => none
    | .Assign [.Tuple ts _ _] (.Tuple vs _ _) _ =>
      if ts.length == vs.length && ts.length == 2 && allLocal S.sc ts && sameLine ts && !vs.all (foldedForSure 8) && !vs.all (constantsAlone 8) then
        match trTgts N S ts, trEs T N n S vs with
        | some [i, j], some (.cons a (.cons b .nil)) => if i == j then none else some (.par i j a b)
        | _, _ => none
      else match trTgts N S ts, trEs T N n S vs with
        | some is, some es => if vs.all (foldedForSure 8) then some (.tset (.tup is) (.tup es)) else none
        | _, _ => none
    | .Assign [.Tuple ts _ _] e _ => match trTgts N S ts, trE T N n S e with
        | some is, some e => some (.tset (.tup is) e)
        | _, _ => none
    | .Assign [.Subscript (.Name y _) k _] e _ => match slotOf N S y, trE T N n S k, trE T N n S e with
        | some i, some k, some e => some (.dput i k e)
        | _, _, _ => none
    | .If c a b _ => match trE T N n S c, trB T N n S a, trB T N n S b with
      | some c, some a, some b => some (.ife c a b)
      | _, _, _ => none
    | .For tg it b [] _ => match trTgt N S tg, trI T N n S it, trB T N n S b with
      | some tg, some it, some b => some (.for_ tg it b)
      | _, _, _ => none
    | .While c b [] _ => match trE T N n S c, trB T N n S b with
      | some c, some b => some (.whl c b)
      | _, _ => none
    | _ => none
def trB (T : Tabs) (N : List Str) : Nat → Scp → List Stmt → Option CSs
  | 0, _, _ => none
  | _ + 1, _, [] => some .nil
  | n + 1, S, a :: r => match trS T N n S a, trB T N n S r with
    | some a, some r => some (.cons a r)
    | _, _ => none
end
end GS

/-! GS2: what values stand for data; a frame's slots. -/
namespace GS
open PySem PySem.Spec PyProof.Rows L2

abbrev St := L2.St
def keyD : Key → D
  | .inl i => .int i
  | .inr x => .str x
/-- a list, a tuple of the written part: read with nothing tracked -/
abbrev KL (K : PySem.W.Frag) (a : Addr) (xs : List V) : Prop := SqL K (fun _ => none) a xs
abbrev KT' (K : PySem.W.Frag) (a : Addr) (xs : List V) : Prop := SqT K (fun _ => none) a xs
theorem no_rd {a : Addr} {u : HO} (h : Rd (fun _ => none) a u) : False := by
  rcases h with h | ⟨_, h⟩ <;> cases h
theorem KL.sq {K : PySem.W.Frag} {H : Hp} {a : Addr} {xs : List V} (h : KL K a xs) : SqL K H a xs := h.elim (fun z => (no_rd z).elim) .inr
theorem KT'.sq {K : PySem.W.Frag} {H : Hp} {a : Addr} {xs : List V} (h : KT' K a xs) : SqT K H a xs := h.elim (fun z => (no_rd z).elim) .inr
/-- a list, a tuple that nobody changes: tracked and not in W, or of the written part -/
def AtL (K : PySem.W.Frag) (W : Addr → Prop) (H : Hp) (a : Addr) (vs : List V) : Prop := (Rd H a (.lst vs) ∧ ¬ W a) ∨ KL K a vs
def AtT (K : PySem.W.Frag) (W : Addr → Prop) (H : Hp) (a : Addr) (vs : List V) : Prop := (Rd H a (.tup vs) ∧ ¬ W a) ∨ KT' K a vs
mutual
inductive Rep (K : PySem.W.Frag) (mg : Str → Option Value) (W : Addr → Prop) (H : Hp) : D → V → Prop
  | non : Rep K mg W H .none .non
  | bl (b : Bool) : Rep K mg W H (.bool b) (.bl b)
  | int (i : Int) : Rep K mg W H (.int i) (.int i)
  | str (x : Str) (h : PyData.strOk x = true) (l : x.length ≤ sizeLine) : Rep K mg W H (.str x) (.str x)
  | lst {a : Addr} {xs : List D} {vs : List V} (h : AtL K W H a vs) (r : RepA K mg W H xs vs) (l : xs.length ≤ sizeLine) : Rep K mg W H (.list xs) (.ref a)
  | tup {a : Addr} {xs : List D} {vs : List V} (h : AtT K W H a vs) (r : RepA K mg W H xs vs) (l : xs.length ≤ sizeLine) : Rep K mg W H (.tuple xs) (.ref a)
  | dic {a : Addr} {kvs : List (D × D)} {kws : List (Key × V)} (h : H a = some (.dK kws)) (n : ¬ W a) (k : kvs.map (·.1) = kws.map fun p => keyD p.1) (r : RepA K mg W H (kvs.map (·.2)) (kws.map (·.2))) (l : kvs.length ≤ sizeLine) : Rep K mg W H (.dict kvs) (.ref a)
  | fn {f : Str} {a : Addr} (h : mg f = some (.ref a)) : Rep K mg W H (fnD f) (.ref a)
inductive RepA (K : PySem.W.Frag) (mg : Str → Option Value) (W : Addr → Prop) (H : Hp) : List D → List V → Prop
  | nil : RepA K mg W H [] []
  | cons {d : D} {v : V} {ds : List D} {vs : List V} (h : Rep K mg W H d v) (r : RepA K mg W H ds vs) : RepA K mg W H (d :: ds) (v :: vs)
end

section
variable {K : PySem.W.Frag} {mg : Str → Option Value} {W W' : Addr → Prop} {H H' : Hp}
structure Keep (W : Addr → Prop) (H : Hp) (W' : Addr → Prop) (H' : Hp) : Prop where
  keep : ∀ a u, H a = some u → ¬ W a → H' a = some u
  own : ∀ a, W' a → W a ∨ H a = none
theorem Keep.refl : Keep W H W H := ⟨fun _ _ h _ => h, fun _ h => .inl h⟩
theorem Keep.rd {a : Addr} {u : HO} (k : Keep W H W' H') (h : Rd H a u) (n : ¬ W a) : Rd H' a u ∧ ¬ W' a := by
  rcases h with h | ⟨o, h⟩
  · exact ⟨.inl (k.keep _ _ h n), fun z => (k.own _ z).elim n (fun q => by rw [h] at q; cases q)⟩
  · exact ⟨.inr ⟨o, k.keep _ _ h n⟩, fun z => (k.own _ z).elim n (fun q => by rw [h] at q; cases q)⟩
theorem AtL.mv {a : Addr} {vs : List V} (k : Keep W H W' H') (h : AtL K W H a vs) : AtL K W' H' a vs := h.imp (fun h => k.rd h.1 h.2) id
theorem AtT.mv {a : Addr} {vs : List V} (k : Keep W H W' H') (h : AtT K W H a vs) : AtT K W' H' a vs := h.imp (fun h => k.rd h.1 h.2) id
mutual
theorem Rep.mv (k : Keep W H W' H') : ∀ {d : D} {v : V}, Rep K mg W H d v → Rep K mg W' H' d v
  | _, _, .non => .non
  | _, _, .bl b => .bl b
  | _, _, .int i => .int i
  | _, _, .str x h l => .str x h l
  | _, _, .lst h r l => .lst (h.mv k) (RepA.mv k r) l
  | _, _, .tup h r l => .tup (h.mv k) (RepA.mv k r) l
  | _, _, .dic h n e r l => .dic (k.keep _ _ h n) (fun z => (k.own _ z).elim n fun q => (by rw [h] at q; cases q)) e (RepA.mv k r) l
  | _, _, .fn h => .fn h
theorem RepA.mv (k : Keep W H W' H') : ∀ {ds : List D} {vs : List V}, RepA K mg W H ds vs → RepA K mg W' H' ds vs
  | _, _, .nil => .nil
  | _, _, .cons h r => .cons (Rep.mv k h) (RepA.mv k r)
end
theorem RepA.len : ∀ {ds : List D} {vs : List V}, RepA K mg W H ds vs → ds.length = vs.length
  | _, _, .nil => rfl
  | _, _, .cons _ r => congrArg Nat.succ (RepA.len r)
theorem RepA.get : ∀ {ds : List D} {vs : List V} {i : Nat} {d : D}, RepA K mg W H ds vs → ds[i]? = some d → ∃ v, vs[i]? = some v ∧ Rep K mg W H d v
  | _, _, _, _, .nil, e => by simp at e
  | _, _, 0, _, .cons h _, e => by simp at e; subst e; exact ⟨_, rfl, h⟩
  | _, _, i + 1, _, .cons _ r, e => by
    obtain ⟨v, h1, h2⟩ := RepA.get (i := i) r (by simpa using e)
    exact ⟨v, by simpa using h1, h2⟩
theorem RepA.append : ∀ {ds : List D} {vs : List V} {es : List D} {us : List V}, RepA K mg W H ds vs → RepA K mg W H es us → RepA K mg W H (ds ++ es) (vs ++ us)
  | _, _, _, _, .nil, q => q
  | _, _, _, _, .cons h r, q => .cons h (RepA.append r q)
theorem RepA.take : ∀ {ds : List D} {vs : List V} (n : Nat), RepA K mg W H ds vs → RepA K mg W H (ds.take n) (vs.take n)
  | _, _, 0, _ => .nil
  | _, _, _ + 1, .nil => .nil
  | _, _, n + 1, .cons h r => .cons h (RepA.take n r)
theorem RepA.drop : ∀ {ds : List D} {vs : List V} (n : Nat), RepA K mg W H ds vs → RepA K mg W H (ds.drop n) (vs.drop n)
  | _, _, 0, r => r
  | _, _, _ + 1, .nil => .nil
  | _, _, n + 1, .cons _ r => RepA.drop n r
theorem RepA.dropLast : ∀ {ds : List D} {vs : List V}, RepA K mg W H ds vs → RepA K mg W H ds.dropLast vs.dropLast := fun {ds vs} r => by
  have h := r.len
  rw [List.dropLast_eq_take, List.dropLast_eq_take, ← h]
  exact r.take _
theorem RepA.flat : ∀ {ds : List D} {vs : List V} (n : Nat), RepA K mg W H ds vs → RepA K mg W H (List.replicate n ds).flatten (List.replicate n vs).flatten
  | _, _, 0, _ => .nil
  | _, _, n + 1, r => by
    rw [List.replicate_succ, List.replicate_succ, List.flatten_cons, List.flatten_cons]
    exact r.append (RepA.flat n r)
theorem AtL.sq {a : Addr} {vs : List V} (h : AtL K W H a vs) : SqL K H a vs := h.elim (fun h => .inl h.1) KL.sq
theorem AtT.sq {a : Addr} {vs : List V} (h : AtT K W H a vs) : SqT K H a vs := h.elim (fun h => .inl h.1) KT'.sq

/-- an object that is owned: it stands at a by itself -/
inductive ObAt (K : PySem.W.Frag) (mg : Str → Option Value) (W : Addr → Prop) (H : Hp) (a : Addr) : Ob → Prop
  | lst {xs : List D} {vs : List V} (h : H a = some (.lst vs)) (r : RepA K mg W H xs vs) (l : xs.length ≤ sizeLine) : ObAt K mg W H a (.lst xs)
  | dic {kvs : List (D × D)} {kws : List (Key × V)} (h : H a = some (.dK kws)) (k : kvs.map (·.1) = kws.map fun p => keyD p.1) (r : RepA K mg W H (kvs.map (·.2)) (kws.map (·.2))) (l : kvs.length ≤ sizeLine) : ObAt K mg W H a (.dic kvs)
theorem ObAt.mv {a : Addr} {o : Ob} (k : Keep W H W' H') (e : ∀ u, H a = some u → H' a = some u) (h : ObAt K mg W H a o) : ObAt K mg W' H' a o := by
  cases h with
  | lst h r l => exact .lst (e _ h) (r.mv k) l
  | dic h q r l => exact .dic (e _ h) q (r.mv k) l
theorem ObAt.trk {a : Addr} {o : Ob} (h : ObAt K mg W H a o) : H a ≠ none := by
  cases h with
  | lst h r l => rw [h]; exact fun z => by cases z
  | dic h q r l => rw [h]; exact fun z => by cases z
/-- an owned object becomes a value -/
theorem ObAt.rep {a : Addr} {o : Ob} (h : ObAt K mg W H a o) (n : ¬ W a) : Rep K mg W H o.toD (.ref a) := by
  cases h with
  | lst h r l => exact .lst (.inl ⟨.inl h, n⟩) r l
  | dic h q r l => exact .dic h n q r l
/-- what an operation reads: a value, or an owned object -/
inductive RepB (K : PySem.W.Frag) (mg : Str → Option Value) (W : Addr → Prop) (H : Hp) : D → V → Prop
  | of {d : D} {v : V} (h : Rep K mg W H d v) : RepB K mg W H d v
  | ob {a : Addr} {o : Ob} (h : ObAt K mg W H a o) : RepB K mg W H o.toD (.ref a)

/-! ### a frame -/
def OwnP (s : Ev) (σ : St) (a : Addr) : Prop := ∃ i : Nat, isOwn s[i]? = true ∧ σ[i]? = some (some (.ref a))
def Wf (W0 : Addr → Prop) (s : Ev) (σ : St) (a : Addr) : Prop := W0 a ∨ OwnP s σ a
structure Rel (K : PySem.W.Frag) (mg : Str → Option Value) (W0 : Addr → Prop) (s : Ev) (σ : St) (H : Hp) : Prop where
  len : s.length = σ.length
  out : ∀ a, W0 a → H a ≠ none
  val : ∀ (i : Nat) d, s[i]? = some (.val d) → ∃ v, σ[i]? = some (some v) ∧ Rep K mg (Wf W0 s σ) H d v
  own : ∀ (i : Nat) o, ownAt s i = some o → ∃ a, σ[i]? = some (some (.ref a)) ∧ ¬ W0 a ∧ ObAt K mg (Wf W0 s σ) H a o
  dis : ∀ (i j : Nat) a, isOwn s[i]? = true → isOwn s[j]? = true → σ[i]? = some (some (.ref a)) → σ[j]? = some (some (.ref a)) → i = j
structure Mv (s : Ev) (σ : St) (H : Hp) (s' : Ev) (σ' : St) (H' : Hp) : Prop where
  keep : ∀ a u, H a = some u → ¬ OwnP s σ a → H' a = some u
  own : ∀ a, OwnP s' σ' a → OwnP s σ a ∨ H a = none
  trk : ∀ a, H a ≠ none → H' a ≠ none
  io : ∀ i : Nat, isIo s[i]? = true → isIo s'[i]? = true ∧ σ'[i]? = σ[i]?
theorem Mv.refl {s : Ev} {σ : St} : Mv s σ H s σ H := ⟨fun _ _ h _ => h, fun _ h => .inl h, fun _ h => h, fun _ h => ⟨h, rfl⟩⟩
theorem Mv.trans {s s1 s2 : Ev} {σ σ1 σ2 : St} {H1 H2 : Hp} (a : Mv s σ H s1 σ1 H1) (b : Mv s1 σ1 H1 s2 σ2 H2) : Mv s σ H s2 σ2 H2 where
  keep := fun p u h n => b.keep p u (a.keep p u h n) fun z => (a.own p z).elim n fun q => by rw [h] at q; cases q
  own := fun p h => by
    rcases b.own p h with h | h
    · exact a.own p h
    · cases q : H p with
      | none => exact .inr rfl
      | some u => exact absurd h (a.trk p (by rw [q]; exact fun z => by cases z))
  trk := fun p h => b.trk p (a.trk p h)
  io := fun i h => ⟨(b.io i (a.io i h).1).1, ((b.io i (a.io i h).1).2).trans (a.io i h).2⟩
theorem Mv.kp {s s' : Ev} {σ σ' : St} {W0 : Addr → Prop} (m : Mv s σ H s' σ' H') : Keep (Wf W0 s σ) H (Wf W0 s' σ') H' :=
  ⟨fun a u h n => m.keep a u h fun z => n (.inr z), fun a h => h.elim (fun z => .inl (.inl z)) fun z => (m.own a z).elim (fun q => .inl (.inr q)) .inr⟩
theorem Mv.fresh {s s' : Ev} {σ σ' : St} (m : Mv s σ H s' σ' H') {a : Addr} (h : H' a = none) : H a = none := by
  cases q : H a with
  | none => rfl
  | some u => exact absurd h (m.trk a (by rw [q]; exact fun z => by cases z))
theorem own_is {s : Ev} {i : Nat} {o : Ob} (h : ownAt s i = some o) : isOwn s[i]? = true := by
  unfold ownAt at h
  split at h
  · rename_i e; rw [e]; rfl
  · rename_i e; rw [e]; rfl
  · cases h
theorem is_own {s : Ev} {i : Nat} (h : isOwn s[i]? = true) : ∃ o, ownAt s i = some o := by
  unfold ownAt
  cases e : s[i]? with
  | none => rw [e] at h; cases h
  | some x =>
    rw [e] at h
    cases x with
    | own o => exact ⟨o, rfl⟩
    | io o => exact ⟨o, rfl⟩
    | emp => cases h
    | val d => cases h
section
variable {s s' : Ev} {σ σ' : St} {W0 W1 : Addr → Prop}
theorem Rel.ownTrk (R : Rel K mg W0 s σ H) {a : Addr} (h : OwnP s σ a) : H a ≠ none ∧ ¬ W0 a := by
  obtain ⟨i, h1, h2⟩ := h
  obtain ⟨o, h3⟩ := is_own h1
  obtain ⟨b, h4, h5, h6⟩ := R.own i o h3
  rw [h2] at h4
  cases h4
  exact ⟨h6.trk, h5⟩
theorem Rel.wTrk (R : Rel K mg W0 s σ H) {a : Addr} (h : Wf W0 s σ a) : H a ≠ none := h.elim (R.out a) fun z => (R.ownTrk z).1
/-- the outer words grow or shrink, the heap grows -/
theorem Rel.grow (R : Rel K mg W0 s σ H) (g : ∀ a u, H a = some u → H' a = some u) (o1 : ∀ a, W1 a → H' a ≠ none) (o2 : ∀ a, W1 a → W0 a ∨ H a = none) : Rel K mg W1 s σ H' := by
  have k : Keep (Wf W0 s σ) H (Wf W1 s σ) H' := ⟨fun a u h _ => g a u h, fun a h => h.elim (fun z => (o2 a z).imp .inl id) fun z => .inl (.inr z)⟩
  refine ⟨R.len, o1, fun i d h => ?_, fun i o h => ?_, R.dis⟩
  · obtain ⟨v, h1, h2⟩ := R.val i d h
    exact ⟨v, h1, h2.mv k⟩
  · obtain ⟨a, h1, h2, h3⟩ := R.own i o h
    refine ⟨a, h1, fun z => ?_, h3.mv k (g a)⟩
    rcases o2 a z with z | z
    · exact h2 z
    · exact h3.trk z
theorem Mv.grow (g : ∀ a u, H a = some u → H' a = some u) : Mv s σ H s σ H' :=
  ⟨fun a u h _ => g a u h, fun _ h => .inl h, fun a h => by
    cases q : H a with
    | none => exact absurd q h
    | some u =>
      rw [g a u q]
      exact fun z => (by cases z), fun _ h => ⟨h, rfl⟩⟩
end

/-! ### what an expression leaves -/
def plus (W0 : Addr → Prop) (p : Addr) : Addr → Prop := fun a => W0 a ∨ a = p
def RepR (K : PySem.W.Frag) (mg : Str → Option Value) (W0 : Addr → Prop) (H : Hp) (σ : St) (s' : Ev) (v : V) (H' : Hp) : RV → Prop
  | .d d => Rel K mg W0 s' σ H' ∧ Rep K mg (Wf W0 s' σ) H' d v
  | .own o => ∃ p, v = .ref p ∧ H p = none ∧ ¬ W0 p ∧ ¬ OwnP s' σ p ∧ Rel K mg (plus W0 p) s' σ H' ∧ ObAt K mg (Wf (plus W0 p) s' σ) H' p o
  | .sl i => Rel K mg W0 s' σ H' ∧ σ[i]? = some (some v)
structure PostE (K : PySem.W.Frag) (mg : Str → Option Value) (W0 : Addr → Prop) (s : Ev) (σ : St) (H : Hp) (rv : RV) (s' : Ev) (v : V) (H' : Hp) : Prop where
  mv : Mv s σ H s' σ H'
  rep : RepR K mg W0 H σ s' v H' rv
/-- an exception's object, as an except clause may read it -/
def XnAt (mg : Str → Option Value) (x : Xn) (c : Value) (d : Option Addr) (H' : Hp) : Prop := ∃ C, c = .ref C ∧ mg x.cls = some (.ref C) ∧ x.flds = [] ∧ d = none
structure PostX (K : PySem.W.Frag) (mg : Str → Option Value) (W0 : Addr → Prop) (s : Ev) (σ : St) (H : Hp) (x : Xn) (s' : Ev) (c : Value) (d : Option Addr) (H' : Hp) : Prop where
  mv : Mv s σ H s' σ H'
  rel : Rel K mg W0 s' σ H'
  xn : XnAt mg x c d H'
def OpRep (K : PySem.W.Frag) (mg : Str → Option Value) (W0 : Addr → Prop) (s : Ev) (σ : St) (H : Hp) (v : V) : Opd → Prop
  | .d d => Rep K mg (Wf W0 s σ) H d v
  | .sl i => σ[i]? = some (some v)
section
variable {s s' s2 : Ev} {σ σ' : St} {W0 W1 : Addr → Prop} {H2 : Hp} {v : V}
theorem wf_less {p a : Addr} (h : Wf W0 s σ a) : Wf (plus W0 p) s σ a := h.imp .inl id
theorem Rel.less {p : Addr} (R : Rel K mg (plus W0 p) s σ H) : Rel K mg W0 s σ H :=
  R.grow (fun _ _ h => h) (fun a h => R.out a (.inl h)) fun a h => .inl (.inl h)
theorem kp_less {p : Addr} : Keep (Wf (plus W0 p) s σ) H (Wf W0 s σ) H := ⟨fun _ _ h _ => h, fun a h => .inl (wf_less h)⟩
theorem PostE.rel {rv : RV} (P : PostE K mg W0 s σ H rv s' v H') : Rel K mg W0 s' σ H' := by
  have r := P.rep
  cases rv with
  | d d => exact r.1
  | own o => obtain ⟨p, _, _, _, _, R, _⟩ := r; exact R.less
  | sl i => exact r.1
theorem PostE.op {rv : RV} (P : PostE K mg W0 s σ H rv s' v H') : OpRep K mg W0 s' σ H' v rv.opd := by
  have r := P.rep
  cases rv with
  | d d => exact r.2
  | own o =>
    obtain ⟨p, rfl, _, n1, n2, R, ob⟩ := r
    exact (ob.mv (W' := Wf W0 s' σ) kp_less fun _ h => h).rep fun z => z.elim n1 n2
  | sl i => exact r.2
theorem OpRep.mv {o : Opd} (m : Mv s σ H s' σ H') (h : OpRep K mg W0 s σ H v o) : OpRep K mg W0 s' σ H' v o := by
  cases o with
  | d d => exact Rep.mv m.kp h
  | sl i => exact h
theorem OpRep.get {o : Opd} {d : D} (R : Rel K mg W0 s σ H) (h : OpRep K mg W0 s σ H v o) (e : o.get s = some d) : RepB K mg (Wf W0 s σ) H d v := by
  cases o with
  | d x =>
    have e' : some x = some d := e
    cases e'
    exact .of h
  | sl i =>
    have h : σ[i]? = some (some v) := h
    have e : (match s[i]? with
      | some (.val x) => some x
      | some (.own o) => some o.toD
      | some (.io o) => some o.toD
      | _ => none) = some d := e
    split at e
    · rename_i x q
      cases e
      obtain ⟨u, h1, h2⟩ := R.val i _ q
      rw [h] at h1
      cases h1
      exact .of h2
    · rename_i o q
      cases e
      obtain ⟨a, h1, _, h2⟩ := R.own i o (by unfold ownAt; rw [q])
      rw [h] at h1
      cases h1
      exact .ob h2
    · rename_i o q
      cases e
      obtain ⟨a, h1, _, h2⟩ := R.own i o (by unfold ownAt; rw [q])
      rw [h] at h1
      cases h1
      exact .ob h2
    · cases e
/-- what an operation on values leaves: the heap grows -/
structure PostV (K : PySem.W.Frag) (mg : Str → Option Value) (W : Addr → Prop) (H : Hp) (rv : RV) (v : V) (H' : Hp) : Prop where
  grow : ∀ a u, H a = some u → H' a = some u
  rep : match rv with
    | .d d => Rep K mg W H' d v
    | .own o => ∃ p, v = .ref p ∧ H p = none ∧ ObAt K mg (plus W p) H' p o
    | .sl _ => False
theorem PostV.post {rv : RV} (R : Rel K mg W0 s2 σ H2) (m : Mv s σ H s2 σ H2) (P : PostV K mg (Wf W0 s2 σ) H2 rv v H') : PostE K mg W0 s σ H rv s2 v H' := by
  have gm : Mv s2 σ H2 s2 σ H' := Mv.grow P.grow
  refine ⟨m.trans gm, ?_⟩
  have r := P.rep
  cases rv with
  | d d => exact ⟨R.grow P.grow (fun a h => gm.trk a (R.out a h)) fun a h => .inl h, r⟩
  | own o =>
    obtain ⟨p, rfl, np, ob⟩ := r
    have n0 : ¬ W0 p := fun z => R.out p z np
    have n1 : ¬ OwnP s2 σ p := fun z => (R.ownTrk z).1 np
    refine ⟨p, rfl, m.fresh np, n0, n1, R.grow P.grow (fun a h => h.elim (fun z => gm.trk a (R.out a z)) fun z => z ▸ ob.trk) (fun a h => h.elim .inl fun z => .inr (z ▸ np)), ?_⟩
    exact ob.mv ⟨fun _ _ h _ => h, fun a h => .inl (h.elim (fun z => z.elim (fun q => .inl (.inl q)) .inr) fun z => .inl (.inr z))⟩ fun _ h => h
  | sl i => exact r.elim
end
end

/-! ### the evaluator's answers as wishes -/
def wpG {α : Type} (r : Rs α) (P : α → Ev → Prop) (E : Xn → Ev → Prop) : Prop :=
  match r with
  | .ok a s => P a s
  | .er x s => E x s
  | .stuck => False
theorem wpG_bind {α β : Type} {r : Rs α} {f : α → Ev → Rs β} {P : β → Ev → Prop} {E : Xn → Ev → Prop} : wpG (r.bind f) P E ↔ wpG r (fun a s => wpG (f a s) P E) E := by
  cases r <;> exact Iff.rfl
theorem wpG.mono {α : Type} {r : Rs α} {P P' : α → Ev → Prop} {E E' : Xn → Ev → Prop} (h : wpG r P E) (p : ∀ a s, P a s → P' a s) (e : ∀ x s, E x s → E' x s) : wpG r P' E' := by
  cases r with
  | ok a s => exact p a s h
  | er x s => exact e x s h
  | stuck => exact h
theorem wpG_opt {α : Type} {o : Option α} {s : Ev} {P : α → Ev → Prop} {E : Xn → Ev → Prop} (h : wpG (Rs.opt o s) P E) : ∃ a, o = some a ∧ P a s := by
  cases o with
  | none => exact h.elim
  | some a => exact ⟨a, rfl, h⟩
end GS

/-! GS3: operations on values. -/
namespace GS
open PySem PySem.Spec PyProof.Rows L2

section
variable {K : PySem.W.Frag} {mg : Str → Option Value} {W : Addr → Prop} {H : Hp}
theorem RepB.inv {d : D} {v : V} (h : RepB K mg W H d v) : Rep K mg W H d v ∨ ∃ a o, v = .ref a ∧ d = o.toD ∧ ObAt K mg W H a o := by
  cases h with
  | of h => exact .inl h
  | ob h => exact .inr ⟨_, _, rfl, rfl, h⟩
theorem RepB.non {v : V} (h : RepB K mg W H .none v) : v = .non := by
  rcases h.inv with h | ⟨a, o, rfl, e, h⟩
  · cases h; rfl
  · cases o <;> cases e
theorem RepB.bl {b : Bool} {v : V} (h : RepB K mg W H (.bool b) v) : v = .bl b := by
  rcases h.inv with h | ⟨a, o, rfl, e, h⟩
  · cases h; rfl
  · cases o <;> cases e
theorem RepB.int {i : Int} {v : V} (h : RepB K mg W H (.int i) v) : v = .int i := by
  rcases h.inv with h | ⟨a, o, rfl, e, h⟩
  · cases h; rfl
  · cases o <;> cases e
theorem RepB.str {x : Str} {v : V} (h : RepB K mg W H (.str x) v) : v = .str x ∧ PyData.strOk x = true ∧ x.length ≤ sizeLine := by
  rcases h.inv with h | ⟨a, o, rfl, e, h⟩
  · cases h with
    | str _ g l => exact ⟨rfl, g, l⟩
  · cases o <;> cases e
theorem RepB.lst {xs : List D} {v : V} (h : RepB K mg W H (.list xs) v) : ∃ a vs, v = .ref a ∧ SqL K H a vs ∧ RepA K mg W H xs vs ∧ xs.length ≤ sizeLine := by
  rcases h.inv with h | ⟨a, o, rfl, e, h⟩
  · cases h with
    | lst g r l => exact ⟨_, _, rfl, g.sq, r, l⟩
  · cases h with
    | lst g r l =>
      cases e
      exact ⟨_, _, rfl, .of g, r, l⟩
    | dic g k r l => cases e
theorem RepB.tup {xs : List D} {v : V} (h : RepB K mg W H (.tuple xs) v) : ∃ a vs, v = .ref a ∧ SqT K H a vs ∧ RepA K mg W H xs vs ∧ xs.length ≤ sizeLine ∧ Rep K mg W H (.tuple xs) v := by
  rcases h.inv with h | ⟨a, o, rfl, e, h⟩
  · cases id h with
    | tup g r l => exact ⟨_, _, rfl, g.sq, r, l, .tup g r l⟩
  · cases o <;> cases e
theorem PostV.atom {d : D} {v : V} (h : Rep K mg W H d v) : PostV K mg W H (.d d) v H := ⟨fun _ _ e => e, h⟩
theorem PostV.str {x : Str} (h : PyData.strOk x = true) (l : x.length ≤ sizeLine) : PostV K mg W H (.d (.str x)) (.str x) H := .atom (.str x h l)
theorem PostV.int {i : Int} : PostV K mg W H (.d (.int i)) (.int i) H := .atom (.int i)
theorem PostV.bl {i : Bool} : PostV K mg W H (.d (.bool i)) (.bl i) H := .atom (.bl i)
theorem grow_upd {p : Addr} {o : HO} (h : H p = none) : ∀ a u, H a = some u → upd H p o a = some u := fun a u e => by
  rw [upd_ne (ne_of_none e h)]
  exact e
theorem kp_new {p : Addr} {o : HO} (h : H p = none) : Keep W H (plus W p) (upd H p o) :=
  ⟨fun a u e _ => grow_upd h a u e, fun a z => z.elim .inl fun e => .inr (e ▸ h)⟩
theorem kp_grow {H' : Hp} (g : ∀ a u, H a = some u → H' a = some u) : Keep W H W H' := ⟨fun a u e _ => g a u e, fun a z => .inl z⟩
theorem PostV.newL {p : Addr} {xs : List D} {vs : List V} (h : H p = none) (r : RepA K mg W H xs vs) (l : xs.length ≤ sizeLine) : PostV K mg W H (.own (.lst xs)) (.ref p) (upd H p (.lst vs)) :=
  ⟨grow_upd h, p, rfl, h, .lst upd_same (r.mv (kp_new h)) l⟩
theorem PostV.newT {p : Addr} {xs : List D} {vs : List V} (h : H p = none) (hw : ¬ W p) (r : RepA K mg W H xs vs) (l : xs.length ≤ sizeLine) : PostV K mg W H (.d (.tuple xs)) (.ref p) (upd H p (.tup vs)) :=
  ⟨grow_upd h, .tup (.inl ⟨.inl upd_same, hw⟩) (r.mv (kp_grow (grow_upd h))) l⟩
end

theorem strOk_app {a b : Str} (ha : PyData.strOk a = true) (hb : PyData.strOk b = true) : PyData.strOk (a ++ b) = true := by
  unfold PyData.strOk at *
  rw [Str.cps_append, Array.all_append, ha, hb]
  rfl
theorem strOk_iff {a : Str} : PyData.strOk a = true ↔ ∀ c ∈ a.cps.toList, c < 0x110000 := by
  unfold PyData.strOk
  rw [← Array.all_toList, List.all_eq_true]
  simp only [decide_eq_true_eq]

section
variable {X : Cx} {pins : List (Addr × Obj)} {σ : St} {H : Hp} {s : Shared} {W : Addr → Prop}
/-- a fresh address is no word's -/
theorem cat_lists {a b : Addr} {xs ys : List V} {Q : VK} (I : Inv X pins σ H s) (ha : SqL X.K H a xs) (hb : SqL X.K H b ys) (hz : xs.length + ys.length ≤ sizeLine)
    (q : ∀ p, H p = none → Q (.ref p) (upd H p (.lst (xs ++ ys)))) : wpAny (model X.prog X.w) X.A (binaryOp .Add (.ref a) (.ref b)) (EP X pins σ Q) X.xe s := by
  obtain ⟨its, r, ⟨⟨cls, dd, data, sl⟩, n, ho, hc, hdd, hd⟩, _⟩ := I.list ha
  obtain ⟨its2, r2, ⟨⟨cls2, dd2, data2, sl2⟩, n2, ho2, hc2, hdd2, hd2⟩, _⟩ := I.list hb
  simp only at hc hd hc2 hd2 hdd hdd2
  subst hc hd hc2 hd2 hdd hdd2
  have e : its.toArray ++ its2.toArray = (its ++ its2).toArray := by simp
  refine concat_meets ⟨_, ho, rfl⟩ ⟨_, ho2, rfl⟩ noFill_list_add seq_list_add PySem.F.slot_list_add PySem.F.entry_list_add (PySem.F.args_list_add_2 _ _) (list_addW a b its.toArray its2.toArray n n2 _ _ sl sl2 (by
    rw [List.size_toArray, List.size_toArray, ← r.length, ← r2.length]; exact hz)) ⟨ho, ho2, ?_⟩
  rw [e]
  exact ⟨.ref _, _, I.lnew (t' := s.toks) (r.append r2) (by rw [List.length_append]; exact hz), rfl, q _ I.fresh⟩
end
end GS

/-! GS4: operators. -/
namespace GS
open PySem PySem.Spec PyProof.Rows L2

def rBin (K : PySem.W.Frag) (mg : Str → Option Value) (o : Operator) : R2 := fun x y H Q => ∃ (W : Addr → Prop) (a b : D) (rv : RV), (∀ p, W p → H p ≠ none) ∧ RepB K mg W H a x ∧ RepB K mg W H b y ∧ binD o a b = some rv ∧
  ∀ v H', PostV K mg W H rv v H' → Q v H'
theorem mulOk_of {i j : Int} (h : mulOk i j = true) : CMul i j := by
  unfold mulOk at h
  simp only [Bool.or_eq_true, Bool.and_eq_true, decide_eq_true_eq] at h
  exact h
theorem flat_str (x : Str) (n : Nat) : (List.replicate n x.cps).foldl (· ++ ·) #[] = ((List.replicate n x.cps.toList).flatten).toArray := by
  have f : ∀ (n : Nat) (acc : Array Nat), (List.replicate n x.cps).foldl (· ++ ·) acc = acc ++ ((List.replicate n x.cps.toList).flatten).toArray := by
    intro n
    induction n with
    | zero => intro acc; simp
    | succ n ih =>
      intro acc
      rw [List.replicate_succ, List.foldl_cons, ih, List.replicate_succ, List.flatten_cons]
      apply Array.ext'
      simp
  rw [f]
  simp
theorem mem_flat {x : Str} {n c : Nat} (h : c ∈ (List.replicate n x.cps.toList).flatten) : c ∈ x.cps.toList := by
  rw [List.mem_flatten] at h
  obtain ⟨l, h1, h2⟩ := h
  rw [(List.mem_replicate.mp h1).2] at h2
  exact h2
theorem len_flat (x : Str) (n : Nat) : ((List.replicate n x.cps.toList).flatten).length = x.length * n := by
  rw [PyProof.Rows.lm_len_rep_flat]
  show n * x.cps.toList.length = x.cps.size * n
  rw [Array.length_toList, Nat.mul_comm]
section
variable {X : Cx}
theorem op_bin (o : Operator) : OpR X (binaryOp o) (rBin X.K X.mg o) := by
  intro pins s σ H x y v u Q I rx ry h
  obtain ⟨W, a, b, rv, hW, ra, rb, e, q⟩ := h
  unfold binD at e
  split at e
  · -- int + int
    cases ra.int; cases rb.int; cases e
    exact op_add pins s σ H _ _ v u Q I rx ry ⟨_, _, rfl, rfl, q _ _ .int⟩
  · cases ra.int; cases rb.int; cases e
    exact op_sub pins s σ H _ _ v u Q I rx ry ⟨_, _, rfl, rfl, q _ _ .int⟩
  · split at e
    · rename_i hm
      cases ra.int; cases rb.int; cases e
      exact op_mul pins s σ H _ _ v u Q I rx ry ⟨_, _, rfl, rfl, mulOk_of hm, q _ _ .int⟩
    · cases e
  · split at e
    · rename_i hm
      cases ra.int; cases rb.int; cases e
      simp only [Bool.and_eq_true, decide_eq_true_eq] at hm
      exact op_fdiv pins s σ H _ _ v u Q I rx ry ⟨_, _, rfl, rfl, hm, q _ _ .int⟩
    · cases e
  · split at e
    · rename_i hm
      cases ra.int; cases rb.int; cases e
      exact op_mod pins s σ H _ _ v u Q I rx ry ⟨_, _, rfl, rfl, hm, q _ _ .int⟩
    · cases e
  · split at e
    · rename_i hm
      cases ra.int; cases rb.int; cases e
      simp only [Bool.and_eq_true, decide_eq_true_eq] at hm
      exact op_pow pins s σ H _ _ v u Q I rx ry ⟨_, _, rfl, rfl, ⟨hm.1.1, hm.1.2, hm.2⟩, q _ _ .int⟩
    · cases e
  · split at e
    · rename_i hm
      cases ra.int; cases rb.int; cases e
      simp only [Bool.and_eq_true, decide_eq_true_eq] at hm
      exact op_shl pins s σ H _ _ v u Q I rx ry ⟨_, _, rfl, rfl, ⟨hm.1.1, hm.1.2, hm.2⟩, q _ _ .int⟩
    · cases e
  · split at e
    · rename_i hm
      cases ra.int; cases rb.int; cases e
      exact op_shr pins s σ H _ _ v u Q I rx ry ⟨_, _, rfl, rfl, hm, q _ _ .int⟩
    · cases e
  · cases ra.int; cases rb.int; cases e
    exact op_and pins s σ H _ _ v u Q I rx ry ⟨_, _, rfl, rfl, q _ _ .int⟩
  · -- str + str
    split at e
    · rename_i hm
      obtain ⟨rfl, h1, _⟩ := ra.str
      obtain ⟨rfl, h2, _⟩ := rb.str
      cases e
      refine op_add_str pins s σ H _ _ v u Q I rx ry ⟨_, _, rfl, rfl, hm, q _ _ (.str (strOk_app h1 h2) ?_)⟩
      rw [Str.length_append]
      exact hm
    · cases e
  · split at e
    · rename_i hm
      obtain ⟨p1, v1, rfl, h1, r1, l1⟩ := ra.lst
      obtain ⟨p2, v2, rfl, h2, r2, l2⟩ := rb.lst
      cases e; cases rx; cases ry
      exact cat_lists I h1 h2 (by rw [← r1.len, ← r2.len]; exact hm) fun p np => q _ _ (.newL np (r1.append r2) (by rw [List.length_append]; exact hm))
    · cases e
  · split at e
    · rename_i hm
      obtain ⟨p1, v1, rfl, h1, r1, l1, t1⟩ := ra.tup
      obtain ⟨p2, v2, rfl, h2, r2, l2, t2⟩ := rb.tup
      cases e
      refine op_catA pins s σ H _ _ v u Q I rx ry ⟨_, _, _, _, rfl, rfl, h1, h2, by rw [← r1.len, ← r2.len]; exact hm, fun z => ?_, fun _ z => ?_, fun _ _ p np => ?_⟩
      · subst z
        cases r1
        exact q _ _ (.atom t2)
      · subst z
        cases r2
        refine q _ _ (.atom ?_)
        rw [List.append_nil]
        exact t1
      · exact q _ _ (.newT np (fun z => hW p z np) (r1.append r2) (by rw [List.length_append]; exact hm))
    · cases e
  · cases e
  · -- str * int
    split at e
    · rename_i x k hm
      obtain ⟨rfl, h1, l1⟩ := ra.str
      cases rb.int
      cases e
      obtain ⟨t, rfl⟩ := rx
      obtain ⟨t', rfl⟩ := ry
      simp only [Bool.and_eq_true, decide_eq_true_eq] at hm
      obtain ⟨⟨g1, g2⟩, g3⟩ := hm
      have hs : sizeLine = 16777216 := sizeLine_eq
      have res : ∀ (tk : Tok) (n : Nat), EP X pins σ Q (.str ⟨((List.replicate k.toNat x.cps.toList).flatten).toArray⟩ tk) { s with toks := n } := fun tk n =>
        ⟨.str _, H, I.tok _, ⟨_, rfl⟩, q _ _ (.str (strOk_iff.mpr fun c hc => strOk_iff.mp h1 c (mem_flat (n := k.toNat) hc)) (by
          show ((List.replicate k.toNat x.cps.toList).flatten).toArray.size ≤ sizeLine
          rw [List.size_toArray, len_flat]; exact g3))⟩
      refine PySem.P.mul_str (by rw [decide_eq_false (by omega), decide_eq_false (by omega)]; rfl) (fun h1 h2 => ?_) (fun h1 h2 => ?_) ?_
      · rw [Bool.or_eq_false_iff] at h2
        have h3 : (x.length : Int) ≤ (2 ^ 63 - 1) / k := by
          rw [Int.le_ediv_iff_mul_le (by omega)]
          have : (x.length : Int) * k = ((x.length * k.toNat : Nat) : Int) := by
            rw [Int.natCast_mul, Int.toNat_of_nonneg g1]
          rw [this]
          omega
        omega
      · exact decide_eq_false (by omega)
      · by_cases c1 : k < 1
        · rw [if_pos c1]
          have hk : k.toNat = 0 := by omega
          have r := res s.toks (s.toks + 1)
          rw [hk] at r
          exact ⟨by decide, r⟩
        · rw [if_neg c1]
          by_cases c2 : (k == 1 || x.length == 0) = true
          · rw [if_pos c2]
            have r := res t s.toks
            have e : (⟨((List.replicate k.toNat x.cps.toList).flatten).toArray⟩ : Str) = x := by
              rw [Bool.or_eq_true, beq_iff_eq, beq_iff_eq] at c2
              rcases c2 with c2 | c2
              · have hk : k.toNat = 1 := by omega
                rw [hk]
                simp
              · have hx : x.cps.toList = [] := List.eq_nil_of_length_eq_zero (by rw [Array.length_toList]; exact c2)
                rw [hx]
                apply Str.ext'
                show ((List.replicate k.toNat ([] : List Nat)).flatten).toArray = x.cps
                apply Array.ext'
                rw [hx]
                simp
            rw [e] at r
            exact r
          · rw [if_neg c2, flat_str]
            have r := res s.toks (s.toks + 1)
            refine ⟨?_, r⟩
            show ((List.replicate k.toNat x.cps.toList).flatten).toArray.size ≤ sizeLine
            rw [List.size_toArray, len_flat]; exact g3
    · cases e
  · cases e
end
end GS

/-! GS5: comparisons. -/
namespace GS
open PySem PySem.Spec PyProof.Rows L2

section
variable {K : PySem.W.Frag} {mg : Str → Option Value} {W : Addr → Prop} {H : Hp}
mutual
theorem Rep.dp : ∀ {d : D} {v : V}, Rep K mg W H d v → plainD d = true → Dp K H v d ∧ d.canLay0 = true
  | _, _, .non, _ => ⟨.non, by simp [PyData.canLay0]⟩
  | _, _, .bl b, _ => ⟨.bl b, by simp [PyData.canLay0]⟩
  | _, _, .int i, _ => ⟨.int i, by simp [PyData.canLay0]⟩
  | _, _, .str x h l, _ => ⟨.str x, by simp [PyData.canLay0]; exact h⟩
  | _, _, .lst h r l, p => by
    have p' := RepA.dp r (by simpa [plainD] using p)
    exact ⟨.lst h.sq p'.1, by simpa [PyData.canLay0] using p'.2⟩
  | _, _, .tup h r l, p => by
    have p' := RepA.dp r (by simpa [plainD] using p)
    exact ⟨.tup h.sq p'.1, by simpa [PyData.canLay0] using p'.2⟩
  | _, _, .dic h n e r l, p => by simp [plainD] at p
  | _, _, .fn h, p => by simp [plainD] at p
theorem RepA.dp : ∀ {ds : List D} {vs : List V}, RepA K mg W H ds vs → plainA ds = true → DpAll K H vs ds ∧ PyData.canLayAll0 ds = true
  | _, _, .nil, _ => ⟨.nil, by simp [PyData.canLayAll0]⟩
  | d :: ds, _, .cons h r, p => by
    have p' : plainD d = true ∧ plainA ds = true := by simpa [plainA] using p
    obtain ⟨h1, h2⟩ := Rep.dp h p'.1
    obtain ⟨h3, h4⟩ := RepA.dp r p'.2
    exact ⟨.cons h1 h3, by simp [PyData.canLayAll0, h2, h4]⟩
end
theorem RepB.dp {d : D} {v : V} (h : RepB K mg W H d v) (p : plainD d = true) : Dp K H v d ∧ d.canLay0 = true := by
  rcases h.inv with h | ⟨a, o, rfl, e, h⟩
  · exact h.dp p
  · cases h with
    | lst g r l =>
      subst e
      have p' := r.dp (by simpa [plainD, Ob.toD] using p)
      exact ⟨.lst (.of g) p'.1, by simpa [PyData.canLay0, Ob.toD] using p'.2⟩
    | dic g k r l =>
      subst e
      simp [plainD, Ob.toD] at p
theorem RepB.dic {kvs : List (D × D)} {v : V} (h : RepB K mg W H (.dict kvs) v) (hx : isFnB kvs = false) : ∃ a kws, v = .ref a ∧ H a = some (.dK kws) ∧ kvs.map (·.1) = (kws.map fun p => keyD p.1) ∧ RepA K mg W H (kvs.map (·.2)) (kws.map (·.2)) ∧ kvs.length ≤ sizeLine := by
  rcases h.inv with h | ⟨a, o, rfl, e, h⟩
  · cases h with
    | dic g n k r l => exact ⟨_, _, rfl, g, k, r, l⟩
    | fn g => cases hx
  · cases h with
    | lst g r l => cases e
    | dic g k r l =>
      cases e
      exact ⟨_, _, rfl, g, k, r, l⟩
theorem isNon_of {a : D} {x : V} (ra : RepB K mg W H a x) : decide (x = V.non) = isNonD a := by
  rcases ra.inv with h | ⟨p, o, rfl, e, h⟩
  · cases h <;> rfl
  · cases o <;> cases e <;> rfl
theorem keyEq_is (a b : Key) : keyEq (keyD a) (keyD b) = decide (a = b) := by
  cases a <;> cases b <;> simp [keyEq, keyD]
theorem keyOk_of {x : D} (h : keyOk x = true) : ∃ k : Key, x = keyD k := by
  unfold keyOk at h
  split at h
  · exact ⟨.inl _, rfl⟩
  · exact ⟨.inr _, rfl⟩
  · cases h
theorem look_ok (k : Key) : ∀ {kvs : List (D × D)} {kws : List (Key × V)}, (kvs.map (·.1)) = (kws.map fun p => keyD p.1) → RepA K mg W H (kvs.map (·.2)) (kws.map (·.2)) →
    (lookD (keyD k) kvs = none ∧ valV kws k = none) ∨ ∃ d v, lookD (keyD k) kvs = some d ∧ valV kws k = some v ∧ Rep K mg W H d v
  | [], [], _, _ => .inl ⟨rfl, rfl⟩
  | [], _ :: _, h, _ => by simp at h
  | _ :: _, [], h, _ => by simp at h
  | (j, x) :: kvs, (i, v) :: kws, h, r => by
    simp only [List.map_cons, List.cons.injEq] at h
    obtain ⟨rfl, h⟩ := h
    cases r with
    | cons h1 r =>
      by_cases e : i = k
      · refine .inr ⟨x, v, ?_, valV_pos e, h1⟩
        unfold lookD
        rw [keyEq_is, decide_eq_true e, if_pos rfl]
      · have e2 : lookD (keyD k) ((keyD i, x) :: kvs) = lookD (keyD k) kvs := by
          conv => lhs; unfold lookD
          rw [keyEq_is, decide_eq_false e, if_neg Bool.false_ne_true]
        rw [e2, valV_neg (p := (i, v)) e]
        exact look_ok k h r
theorem keyRep {k : Key} {v : V} (h : RepB K mg W H (keyD k) v) : v = kV k := by
  cases k with
  | inl i => exact h.int
  | inr x => exact h.str.1
theorem lookD_fn {f : Str} (k : Key) : lookD (keyD k) [(.tuple [], .str f)] = none := by
  cases k <;> rfl
end

def rCmp (K : PySem.W.Frag) (mg : Str → Option Value) (o : CmpOp) : R2 := fun x y H Q => ∃ (W : Addr → Prop) (a b : D) (c : Bool), RepB K mg W H a x ∧ RepB K mg W H b y ∧ cmpD o a b = some c ∧ Q (.bl c) H
def isFn : D → Prop
  | .dict kvs => ∃ f, kvs = [(.tuple [], .str f)]
  | _ => False
section
variable {X : Cx}
theorem RepB.reads {W : Addr → Prop} {pins : List (Addr × Obj)} {s : Shared} {σ : L2.St} {H : Hp} {d : D} {x : V} {v : Value} (I : Inv X pins σ H s) (rx : RelV x v) (h : RepB X.K X.mg W H d x) (p : plainD d = true) : (∃ as, Reads s.heap v d as) ∧ d.canLay0 = true :=
  ⟨Dp.reads I d x v (h.dp p).1 rx, (h.dp p).2⟩
theorem op_cmp (o : CmpOp) (hu : X.A.units + 100 < cLine) : OpR X (compareOp o) (rCmp X.K X.mg o) := by
  intro pins s σ H x y v u Q I rx ry h
  obtain ⟨W, a, b, c, ra, rb, e, q⟩ := h
  have fin : ∀ {s' : Shared}, Inv X pins σ H s' → EP X pins σ Q (.bool c) s' := fun {s'} I' => ⟨.bl c, H, I', rfl, q⟩
  have eqs : ∀ {c' : Bool}, eqD a b = some c' → (∃ as bs, Reads s.heap v a as ∧ Reads s.heap u b bs) ∧ a.canLay0 = true ∧ b.canLay0 = true ∧ X.A.units + min a.depth b.depth < cLine ∧ c' = PyData.eqv a b := fun {c'} h => by
    unfold eqD at h
    split at h
    · rename_i g
      simp only [Bool.and_eq_true, decide_eq_true_eq] at g
      obtain ⟨⟨as, r1⟩, k1⟩ := ra.reads I rx g.1.1
      obtain ⟨⟨bs, r2⟩, k2⟩ := rb.reads I ry g.1.2
      exact ⟨⟨as, bs, r1, r2⟩, k1, k2, by omega, (Option.some.inj h).symm⟩
    · cases h
  have ins : ∀ {c' : Bool}, isIn a b = some c' → (o = .In → c = c' → wpAny (model X.prog X.w) X.A (compareOp .In v u) (EP X pins σ Q) X.xe s) ∧ (o = .NotIn → c = !c' → wpAny (model X.prog X.w) X.A (compareOp .NotIn v u) (EP X pins σ Q) X.xe s) := fun {c'} h => by
    unfold isIn at h
    split at h
    · rename_i ys
      split at h
      · rename_i g
        simp only [Bool.and_eq_true, decide_eq_true_eq] at g
        obtain ⟨⟨as, r1⟩, k1⟩ := ra.reads I rx g.1.1
        obtain ⟨⟨bs, r2⟩, k2⟩ := rb.reads I ry (by simpa [plainD] using g.1.2)
        have k2' : PyData.canLayAll0 ys = true := by simpa [PyData.canLay0] using k2
        cases h
        exact ⟨fun _ ec => SeqAt.in_list_reads r2 r1 k2' k1 (by omega) (by rw [← ec]; exact fin I), fun _ ec => SeqAt.notIn_list_reads r2 r1 k2' k1 (by omega) (by rw [← ec]; exact fin I)⟩
      · cases h
    · rename_i ys
      split at h
      · rename_i g
        simp only [Bool.and_eq_true, decide_eq_true_eq] at g
        obtain ⟨⟨as, r1⟩, k1⟩ := ra.reads I rx g.1.1
        obtain ⟨⟨bs, r2⟩, k2⟩ := rb.reads I ry (by simpa [plainD] using g.1.2)
        have k2' : PyData.canLayAll0 ys = true := by simpa [PyData.canLay0] using k2
        cases h
        exact ⟨fun _ ec => SeqAt.in_tuple_reads r2 r1 k2' k1 (by omega) (by rw [← ec]; exact fin I), fun _ ec => SeqAt.notIn_tuple_reads r2 r1 k2' k1 (by omega) (by rw [← ec]; exact fin I)⟩
      · cases h
    · rename_i kvs
      split at h
      · rename_i g
        simp only [Bool.and_eq_true, Bool.not_eq_true'] at g
        obtain ⟨k, rfl⟩ := keyOk_of g.1
        cases h
        have hk := keyRep ra
        subst hk
        obtain ⟨p, kws, rfl, hr, hk, hv, hl⟩ := rb.dic g.2
        have g : DGet H p (kV k) (valV kws k) := .inl ⟨kws, k, .inl hr, rfl, rfl⟩
        have e1 : (lookD (keyD k) kvs).isSome = (valV kws k).isSome := by
          rcases look_ok k hk hv with ⟨h1, h2⟩ | ⟨d, w, h1, h2, _⟩ <;> rw [h1, h2] <;> rfl
        cases ry
        exact ⟨fun _ ec => d_in (by omega) I g rx fun s' I' => by rw [← e1, ← ec]; exact fin I', fun _ ec => d_notIn (by omega) I g rx fun s' I' => by rw [← e1, ← ec]; exact fin I'⟩
      · cases h
    · split at h
      · rename_i z
        cases h
        obtain ⟨rfl, _, _⟩ := ra.str
        obtain ⟨rfl, _, _⟩ := rb.str
        exact ⟨fun _ ec => op_in_str pins s σ H _ _ v u Q I rx ry ⟨_, _, rfl, rfl, by rw [← ec]; exact q⟩, fun _ ec => op_notIn_str pins s σ H _ _ v u Q I rx ry ⟨_, _, rfl, rfl, by rw [← ec]; exact q⟩⟩
      · cases h
    · cases h
  unfold cmpD at e
  split at e
  · obtain ⟨⟨as, bs, r1, r2⟩, k1, k2, hz, rfl⟩ := eqs e
    exact SeqAt.compareEq_reads r1 r2 k1 k2 hz (fin I)
  · cases e' : eqD a b with
    | none => rw [e'] at e; cases e
    | some c' =>
      rw [e'] at e
      cases e
      obtain ⟨⟨as, bs, r1, r2⟩, k1, k2, hz, rfl⟩ := eqs e'
      exact SeqAt.compareNe_reads r1 r2 k1 k2 hz (fin I)
  · unfold ltD at e
    split at e
    · cases ra.int; cases rb.int; cases e
      exact op_lt pins s σ H _ _ v u Q I rx ry ⟨_, _, rfl, rfl, q⟩
    · cases e
  · split at e
    · cases ra.int; cases rb.int; cases e
      exact op_le pins s σ H _ _ v u Q I rx ry ⟨_, _, rfl, rfl, q⟩
    · cases e
  · split at e
    · cases ra.int; cases rb.int; cases e
      exact op_gt pins s σ H _ _ v u Q I rx ry ⟨_, _, rfl, rfl, q⟩
    · cases e
  · split at e
    · cases ra.int; cases rb.int; cases e
      exact op_ge pins s σ H _ _ v u Q I rx ry ⟨_, _, rfl, rfl, q⟩
    · cases e
  · exact (ins e).1 rfl rfl
  · cases e' : isIn a b with
    | none => rw [e'] at e; cases e
    | some c' =>
      rw [e'] at e
      cases e
      exact (ins e').2 rfl rfl
  · split at e
    · cases rb.non
      cases e
      refine op_isN pins s σ H _ _ v u Q I rx ry ⟨rfl, ?_⟩
      rw [isNon_of ra]
      exact q
    · cases e
  · split at e
    · cases rb.non
      cases e
      refine op_notN pins s σ H _ _ v u Q I rx ry ⟨rfl, ?_⟩
      rw [isNon_of ra]
      exact q
    · cases e
end
end GS

/-! GS6: subscripts, slices, isinstance, built-in functions, methods. -/
namespace GS
open PySem PySem.Spec PyProof.Rows L2

inductive RepBs (K : PySem.W.Frag) (mg : Str → Option Value) (W : Addr → Prop) (H : Hp) : List D → List V → Prop
  | nil : RepBs K mg W H [] []
  | cons {d : D} {v : V} {ds : List D} {vs : List V} (h : RepB K mg W H d v) (r : RepBs K mg W H ds vs) : RepBs K mg W H (d :: ds) (v :: vs)
section
variable {K : PySem.W.Frag} {mg : Str → Option Value} {W : Addr → Prop} {H : Hp}
theorem RepBs.one {d : D} {vs : List V} (h : RepBs K mg W H [d] vs) : ∃ v, vs = [v] ∧ RepB K mg W H d v := by
  cases h with
  | cons h r => cases r; exact ⟨_, rfl, h⟩
theorem RepBs.two {d e : D} {vs : List V} (h : RepBs K mg W H [d, e] vs) : ∃ v w, vs = [v, w] ∧ RepB K mg W H d v ∧ RepB K mg W H e w := by
  cases h with
  | cons h r =>
    obtain ⟨w, rfl, r'⟩ := r.one
    exact ⟨_, _, rfl, h, r'⟩
theorem RepBs.zero {vs : List V} (h : RepBs K mg W H [] vs) : vs = [] := by
  cases h; rfl
theorem atI_rep {xs : List D} {vs : List V} {i : Int} {d : D} (r : RepA K mg W H xs vs) (h : atI xs i = some d) : ∃ v, atI vs i = some v ∧ Rep K mg W H d v := by
  unfold atI at h ⊢
  rw [← r.len]
  cases e : ixN xs.length i with
  | none => rw [e] at h; cases h
  | some j =>
    rw [e] at h
    obtain ⟨v, h1, h2⟩ := r.get (i := j) h
    exact ⟨v, h1, h2⟩
theorem cut_rep {xs : List D} {vs : List V} {lo hi : Option Int} (r : RepA K mg W H xs vs) : RepA K mg W H (cutD xs lo hi) (cutV vs lo hi) := by
  unfold cutD cutV
  rw [← r.len]
  exact (r.drop _).take _
theorem cutD_len (xs : List D) (lo hi : Option Int) : (cutD xs lo hi).length ≤ xs.length := by
  unfold cutD
  rw [List.length_take, List.length_drop]
  omega
theorem strOk_chr {z : Str} {c : Nat} (h : PyData.strOk z = true) (e : c ∈ z.cps.toList) : PyData.strOk ⟨#[c]⟩ = true :=
  strOk_iff.mpr fun d hd => by
    have hd' : d = c := by simpa using hd
    rw [hd']
    exact strOk_iff.mp h c e
theorem one_size : (1 : Nat) ≤ sizeLine := by rw [sizeLine_eq]; decide
theorem strOk_cut {z : Str} {lo hi : Option Int} (h : PyData.strOk z = true) : PyData.strOk (cutS z lo hi) = true :=
  strOk_iff.mpr fun c hc => strOk_iff.mp h c (by
    have hc : c ∈ (z.cps.toList.drop (HT.sIx z.length 0 lo)).take (HT.sIx z.length z.length hi - HT.sIx z.length 0 lo) := by simpa [cutS] using hc
    exact List.mem_of_mem_drop (List.mem_of_mem_take hc))
theorem bools_ok : ∀ {xs : List D} {vs : List V} {bs : List Bool}, RepA K mg W H xs vs → bools xs = some bs → vs = bs.map V.bl
  | [], _, _, r, h => by cases r; cases h; rfl
  | .bool b :: xs, _, bs, r, h => by
    cases r with
    | cons h1 r =>
      cases h1
      have h' : (bools xs).map (b :: ·) = some bs := h
      cases e : bools xs with
      | none => rw [e] at h'; cases h'
      | some cs =>
        rw [e] at h'
        cases h'
        rw [bools_ok r e]
        rfl
  | .none :: _, _, _, _, h => by cases h
  | .int _ :: _, _, _, _, h => by cases h
  | .str _ :: _, _, _, _, h => by cases h
  | .list _ :: _, _, _, _, h => by cases h
  | .tuple _ :: _, _, _, _, h => by cases h
  | .dict _ :: _, _, _, _, h => by cases h
theorem ints_ok : ∀ {xs : List D} {vs : List V} {bs : List Int}, RepA K mg W H xs vs → intsD xs = some bs → vs = bs.map V.int
  | [], _, _, r, h => by cases r; cases h; rfl
  | .int b :: xs, _, bs, r, h => by
    cases r with
    | cons h1 r =>
      cases h1
      have h' : (intsD xs).map (b :: ·) = some bs := h
      cases e : intsD xs with
      | none => rw [e] at h'; cases h'
      | some cs =>
        rw [e] at h'
        cases h'
        rw [ints_ok r e]
        rfl
  | .none :: _, _, _, _, h => by cases h
  | .bool _ :: _, _, _, _, h => by cases h
  | .str _ :: _, _, _, _, h => by cases h
  | .list _ :: _, _, _, _, h => by cases h
  | .tuple _ :: _, _, _, _, h => by cases h
  | .dict _ :: _, _, _, _, h => by cases h
theorem strs_ok : ∀ {xs : List D} {vs : List V} {bs : List Str}, RepA K mg W H xs vs → strsD xs = some bs → vs = bs.map V.str ∧ ∀ b ∈ bs, PyData.strOk b = true
  | [], _, _, r, h => by cases r; cases h; exact ⟨rfl, fun _ h => by cases h⟩
  | .str b :: xs, _, bs, r, h => by
    cases r with
    | cons h1 r =>
      have h' : (strsD xs).map (b :: ·) = some bs := h
      cases e : strsD xs with
      | none => rw [e] at h'; cases h'
      | some cs =>
        rw [e] at h'
        cases h'
        obtain ⟨e1, e2⟩ := strs_ok r e
        cases h1 with
        | str _ g l =>
          refine ⟨by rw [e1]; rfl, fun x hx => ?_⟩
          rcases List.mem_cons.mp hx with rfl | hx
          · exact g
          · exact e2 x hx
  | .none :: _, _, _, _, h => by cases h
  | .bool _ :: _, _, _, _, h => by cases h
  | .int _ :: _, _, _, _, h => by cases h
  | .list _ :: _, _, _, _, h => by cases h
  | .tuple _ :: _, _, _, _, h => by cases h
  | .dict _ :: _, _, _, _, h => by cases h
theorem seq_ok {x : D} {v : V} {xs : List D} (r : RepB K mg W H x v) (h : seqD x = some xs) : ∃ a vs, v = .ref a ∧ (SqL K H a vs ∨ SqT K H a vs) ∧ RepA K mg W H xs vs ∧ xs.length ≤ sizeLine ∧ (x = .tuple xs → Rep K mg W H (.tuple xs) v ∧ SqT K H a vs) ∧ (x = .list xs → SqL K H a vs) ∧ (x = .list xs ∨ x = .tuple xs) := by
  unfold seqD at h
  split at h
  · cases h
    obtain ⟨a, vs, rfl, h1, h2, h3⟩ := r.lst
    exact ⟨a, vs, rfl, .inl h1, h2, h3, (fun z => by cases z), (fun _ => h1), .inl rfl⟩
  · cases h
    obtain ⟨a, vs, rfl, h1, h2, h3, h4⟩ := r.tup
    exact ⟨a, vs, rfl, .inr h1, h2, h3, (fun _ => ⟨h4, h1⟩), (fun z => by cases z), .inr rfl⟩
  · cases h
theorem lstD_ok {x : D} {v : V} {xs : List D} (r : RepB K mg W H x v) (h : lstD x = some xs) : ∃ a vs, v = .ref a ∧ SqL K H a vs ∧ RepA K mg W H xs vs ∧ xs.length ≤ sizeLine := by
  unfold lstD at h
  split at h
  · cases h
    exact r.lst
  · cases h
end

section
variable {X : Cx}
/-! ### a[b] -/
def rIdx (K : PySem.W.Frag) (mg : Str → Option Value) : R2 := fun x y H Q => ∃ (W : Addr → Prop) (a b d : D), RepB K mg W H a x ∧ RepB K mg W H b y ∧ idxD a b = some d ∧ ∀ v, Rep K mg W H d v → Q v H
/-- a dict's item, where the key is there -/
theorem ix_dict (room : X.A.units + 1 < cLine) : IxR X (fun x y H Q => ∃ a v, x = .ref a ∧ DGet H a y (some v) ∧ Q v H) := fun whole key pins t σ H x y o k Q inv atO atK ⟨a, w, isA, got, q⟩ plain => by
  subst isA
  obtain rfl : o = .ref a := atO
  have item : wpAny (model X.prog X.w) X.A (subscripted key false (.ref a) k) (EP X pins σ (fun z G => z = w ∧ G = H)) X.xe t :=
    plain ▸ wpAny_operating (d_getItem room inv got atK fun z t2 inv2 rel => ⟨w, H, inv2, rel, rfl, rfl⟩)
  have ends := wpAny_mono (Q' := fun r t2 => wpAny (model X.prog X.w) X.A (letTemporaryGo whole (.ref a) r >>= fun _ => pure r) (EP X pins σ Q) X.xe t2) item
    (fun r t2 ⟨z, G, inv2, rel, ez, eG⟩ => wpAny_bind (wpAny_letTemporaryGo (wpAny_pure ⟨z, G, inv2, rel, ez ▸ eG ▸ q⟩))) fun _ _ out => out
  have typed := dict_typeIs inv got
  simp only [subscriptTail, getitemInPython_of_ne typed.not_modules]
  exact wpAny_bind (wpAny_bind (wpAny_specialOf typed PySem.F.slot_dict_getitem.lookup (by
    first
      | exact wpAny_pure (by exact wpAny_bind ends)
      | exact wpAny_bind ends)))
theorem ix_any (hu : X.A.units + 1 < cLine) : IxR X (rIdx X.K X.mg) := by
  intro value slice pins s σ H x y v u Q I rx ry h hs
  obtain ⟨W, a, b, d, ra, rb, e, q⟩ := h
  unfold idxD at e
  split at e
  · obtain ⟨p, vs, rfl, h1, h2, h3⟩ := ra.lst
    cases rb.int
    obtain ⟨w, e1, e2⟩ := atI_rep h2 e
    exact ix_list value slice pins s σ H _ _ v u Q I rx ry ⟨p, vs, _, w, rfl, rfl, h1, e1, q w e2⟩ hs
  · obtain ⟨p, vs, rfl, h1, h2, h3, h4⟩ := ra.tup
    cases rb.int
    obtain ⟨w, e1, e2⟩ := atI_rep h2 e
    exact ix_tup value slice pins s σ H _ _ v u Q I rx ry ⟨p, vs, _, w, rfl, rfl, h1, e1, q w e2⟩ hs
  · obtain ⟨rfl, h1, h2⟩ := ra.str
    cases rb.int
    obtain ⟨c, e1, e2⟩ := Option.map_eq_some_iff.mp e
    subst e2
    refine ix_str value slice pins s σ H _ _ v u Q I rx ry ⟨_, _, c, rfl, rfl, h2, e1, q _ (.str _ (strOk_chr h1 ?_) one_size)⟩ hs
    obtain ⟨j, _, e3, _⟩ := atI_get e1
    exact List.mem_of_getElem? e3
  · split at e
    · rename_i g
      simp only [Bool.and_eq_true, Bool.not_eq_true'] at g
      obtain ⟨k, rfl⟩ := keyOk_of g.1
      have hk := keyRep rb
      subst hk
      obtain ⟨p, kws, rfl, hr, hk, hv, hl⟩ := ra.dic g.2
      rcases look_ok k hk hv with ⟨h1, h2⟩ | ⟨d', w, h1, h2, h3⟩
      · rw [h1] at e; cases e
      · rw [h1] at e; cases e
        exact ix_dict hu value slice pins s σ H _ _ v u Q I rx ry ⟨p, w, rfl, .inl ⟨kws, k, .inl hr, rfl, h2.symm⟩, q w h3⟩ hs
    · cases e
  · cases e
/-! ### a[l:h] -/
def rSlc (K : PySem.W.Frag) (mg : Str → Option Value) : V → Option Int → Option Int → Hp → VK → Prop := fun x lo hi H Q => ∃ (W : Addr → Prop) (a : D) (rv : RV), (∀ p, W p → H p ≠ none) ∧ RepB K mg W H a x ∧ slcD a lo hi = some rv ∧
  ∀ v H', PostV K mg W H rv v H' → Q v H'
theorem sl_any : SlR X (rSlc X.K X.mg) := by
  intro pins s σ H x v vl vu lo hi sl Q I rx hs pl pu h
  obtain ⟨W, a, rv, hW, ra, e, q⟩ := h
  unfold slcD at e
  split at e
  · cases e
    obtain ⟨p, vs, rfl, h1, h2, h3⟩ := ra.lst
    exact sl_list pins s σ H _ v vl vu lo hi sl Q I rx hs pl pu ⟨p, vs, rfl, h1, fun p np => q _ _ (.newL np (cut_rep h2) (Nat.le_trans (cutD_len _ _ _) h3))⟩
  · cases e
    obtain ⟨p, vs, rfl, h1, h2, h3, h4⟩ := ra.tup
    rename_i xs
    refine sl_tupA pins s σ H _ v vl vu lo hi sl Q I rx hs pl pu ⟨p, vs, rfl, h1, fun hw => ?_, fun hw p np => q _ _ (.newT np (fun z => hW p z np) (cut_rep h2) (Nat.le_trans (cutD_len _ _ _) h3))⟩
    have ec : cutD xs lo hi = xs := by
      unfold cutD
      rw [h2.len, hw.1, hw.2, List.drop_zero, Nat.sub_zero, ← h2.len, List.take_length]
    refine q _ _ (.atom ?_)
    rw [ec]
    exact h4
  · cases e
    obtain ⟨rfl, h1, h2⟩ := ra.str
    exact sl_str pins s σ H _ v vl vu lo hi sl Q I rx hs pl pu ⟨_, rfl, h2, q _ _ (.str (strOk_cut h1) (Nat.le_trans (cutS_length _ _ _) h2))⟩
  · cases e
/-! ### isinstance -/
theorem tyX_of {W : Addr → Prop} {H : Hp} {d : D} {x : V} (h : RepB X.K X.mg W H d x) (hf : isFnD d = false) : TyX X.K H x (.type (tyD d)) := by
  rcases h.inv with g | ⟨a, o, rfl, rfl, g⟩
  · clear h
    cases g with
    | non => exact .base .non
    | bl b => exact .base (.bl b)
    | int i => exact .base (.int i)
    | str x h l => exact .base (.str x)
    | lst h r l =>
      rcases h.sq with (h | ⟨o, h⟩) | ⟨o, its, n, h, hc, _⟩
      · exact .base (.lst h)
      · exact .base (.frz h)
      · exact .kList h hc
    | tup h r l =>
      rcases h.sq with (h | ⟨o, h⟩) | ⟨o, its, n, h, hc, _⟩
      · exact .base (.tup h)
      · exact .fTuple h
      · exact .kTuple h hc
    | dic h n k r l =>
      exact .base (.dK h)
    | fn h => cases hf
  · clear h
    cases g with
    | lst h r l => exact .base (.lst h)
    | dic h k r l => exact .base (.dK h)
def tyPairs : List (String × String) := (["NoneType", "bool", "int", "str", "list", "tuple", "dict"]).flatMap fun a => tyNames.map fun t => (a, t)
theorem kit_all : tyPairs.all (fun p => kitB p.1 p.2 == some (p.1 == p.2 || (p.1 == "bool" && p.2 == "int"))) = true := by decide +kernel
theorem tyD_in (d : D) : tyD d ∈ (["NoneType", "bool", "int", "str", "list", "tuple", "dict"] : List String) := by
  cases d <;> simp [tyD]
theorem kit_is {K : PySem.W.Frag} {d : D} {t : String} (ht : t ∈ tyNames) : PySem.W.kitOne K (.type (tyD d)) (.type t) = some (tyD d == t || (tyD d == "bool" && t == "int")) := by
  have h := List.all_eq_true.mp kit_all (tyD d, t) (List.mem_flatMap.mpr ⟨_, tyD_in d, List.mem_map.mpr ⟨t, ht, rfl⟩⟩)
  exact kit_ty (by simpa using h)
def rIsi' (K : PySem.W.Frag) (mg : Str → Option Value) (t : String) : List V → Hp → VK → Prop := fun xs H Q => ∃ (W : Addr → Prop) (x : V) (d : D) (c : Bool), xs = [x, .ty t] ∧ RepB K mg W H d x ∧ isiD d t = some c ∧ Q (.bl c) H
theorem call_isi' {t : String} (ht : t ∈ tyNames) : CallR X (.builtin "isinstance") (rIsi' X.K X.mg t) := by
  intro pins s σ H xs us Q I r h
  obtain ⟨W, x, d, c, rfl, hd, e, q⟩ := h
  unfold isiD at e
  split at e
  · cases e
  · rename_i hf
    cases e
    exact call_isi pins s σ H _ us Q I r ⟨x, _, _, _, _, rfl, .ty t, tyX_of hd (by simpa using hf), kit_is ht, q⟩
end
end GS

/-! GS7: built-in functions, methods, truth. -/
namespace GS
open PySem PySem.Spec PyProof.Rows L2

def biV : String → Value
  | "int" => .type "int"
  | "str" => .type "str"
  | "list" => .type "list"
  | "tuple" => .type "tuple"
  | "bool" => .type "bool"
  | f => .builtin f
def rBi (K : PySem.W.Frag) (mg : Str → Option Value) (f : String) : List V → Hp → VK → Prop := fun vs H Q => ∃ (W : Addr → Prop) (ds : List D) (rv : RV), (∀ p, W p → H p ≠ none) ∧ RepBs K mg W H ds vs ∧ biD f ds = some rv ∧
  ∀ v H', PostV K mg W H rv v H' → Q v H'
section
variable {K : PySem.W.Frag} {mg : Str → Option Value} {W : Addr → Prop} {H : Hp}
theorem plain_hasDict {d : D} (h : d.canLay0 = true) : d.hasDict = false := PyData.hasDict_of_canLay d h
end
section
variable {X : Cx}
theorem some_bind {α β : Type} {o : Option α} {f : α → Option β} {b : β} (h : o.bind f = some b) : ∃ a, o = some a ∧ f a = some b := Option.bind_eq_some_iff.mp h
theorem some_map {α β : Type} {o : Option α} {f : α → β} {b : β} (h : o.map f = some b) : ∃ a, o = some a ∧ f a = b := Option.map_eq_some_iff.mp h
theorem atom_rep {W : Addr → Prop} {H : Hp} {d : D} {v : V} (h : RepB X.K X.mg W H d v) (n : ∀ o : Ob, d ≠ o.toD) : Rep X.K X.mg W H d v := by
  rcases h.inv with h | ⟨a, o, rfl, e, h⟩
  · exact h
  · exact absurd e (n o)
theorem call_repr' (hg : X.A.guards = some []) (hu : X.A.units + 100 < cLine) {pins : List (Addr × Obj)} {s : Shared} {σ : L2.St} {H : Hp} {W : Addr → Prop} {d : D} {x : V} {u : Value} {Q : VK} (I : Inv X pins σ H s) (rx : RelV x u)
    (rd : RepB X.K X.mg W H d x) (h1 : d.showable = true) (h2 : plainD d = true) (h3 : d.depth ≤ 60) (h4 : d.shown.length ≤ sizeLine) (q : Q (.str d.shown) H) :
    wpAny (model X.prog X.w) X.A (call (.builtin "repr") [u]) (EP X pins σ Q) X.xe s := by
  obtain ⟨⟨as, rr⟩, hl⟩ := rd.reads I rx h2
  have fin : ∀ h' t tk, (∀ b o, s.heap.get? b = some o → h'.get? b = some o) → EP X pins σ Q (.str d.shown t) { s with heap := h', toks := tk } := fun h' t tk hk => ⟨.str d.shown, H, I.kept hk, ⟨_, rfl⟩, q⟩
  cases d with
  | none =>
    obtain rfl := rd.non
    cases rx
    exact PySem.P.repr_of_none ⟨.str _, H, I.tok _, ⟨_, rfl⟩, q⟩
  | bool b =>
    obtain rfl := rd.bl
    cases rx
    exact PySem.P.repr_of_bool ⟨.str _, H, I.tok _, ⟨_, rfl⟩, by
      have e : (PyData.bool b).shown = (if b then "True" else "False" : Str) := rfl
      rw [e] at q
      cases b <;> exact q⟩
  | int i =>
    obtain rfl := rd.int
    obtain ⟨t, rfl⟩ := rx
    exact PySem.P.repr_of_int (by simpa [PyData.showable] using h1) ⟨.str _, H, I.tok _, ⟨_, rfl⟩, q⟩
  | str z =>
    obtain ⟨rfl, _, _⟩ := rd.str
    obtain ⟨t, rfl⟩ := rx
    exact PySem.P.repr_of_str ⟨.str _, H, I.tok _, ⟨_, rfl⟩, q⟩ h4
  | list xs =>
    obtain ⟨a, vs, rfl, _⟩ := rd.lst
    cases rx
    exact repr_of_reads' rr h1 (fun z => by rw [plain_hasDict hl] at z; cases z) hg (by omega) (fun _ _ h => h) fin h4
  | tuple xs =>
    obtain ⟨a, vs, rfl, _⟩ := rd.tup
    cases rx
    exact repr_of_reads' rr h1 (fun z => by rw [plain_hasDict hl] at z; cases z) hg (by omega) (fun _ _ h => h) fin h4
  | dict kvs => cases h2
theorem call_bi (hc : X.calm = true) (hg : X.A.guards = some []) (hu : X.A.units + 100 < cLine) (f : String) : CallR X (biV f) (rBi X.K X.mg f) := by
  intro pins s σ H xs us Q I r h
  obtain ⟨W, ds, rv, hW, rd, e, q⟩ := h
  unfold biD at e
  split at e
  · -- len
    obtain ⟨x, rfl, rx⟩ := rd.one
    obtain ⟨n, e1, rfl⟩ := some_map e
    have q' := q _ _ (.int (i := (n : Int)))
    unfold D.len at e1
    split at e1
    · cases e1
      obtain ⟨rfl, h1, h2⟩ := rx.str
      exact call_len pins s σ H _ us Q I r ⟨_, _, rfl, ⟨h2, rfl⟩, q'⟩
    · cases e1
      obtain ⟨a, vs, rfl, h1, h2, h3⟩ := rx.lst
      rw [h2.len] at q'
      exact call_len pins s σ H _ us Q I r ⟨_, _, rfl, .inl ⟨_, h1, rfl⟩, q'⟩
    · cases e1
      obtain ⟨a, vs, rfl, h1, h2, h3, _⟩ := rx.tup
      rw [h2.len] at q'
      exact call_len pins s σ H _ us Q I r ⟨_, _, rfl, .inr ⟨_, h1, rfl⟩, q'⟩
    · split at e1
      · cases e1
      · rename_i hf
        cases e1
        obtain ⟨a, kws, rfl, h1, h2, h3, h4⟩ := rx.dic (by simpa using hf)
        obtain ⟨u, rfl, ru⟩ := vals1 r
        cases ru
        have hl : (List.length kws) = List.length ‹List (D × D)› := by
          have := congrArg List.length h2
          rw [List.length_map, List.length_map] at this
          exact this.symm
        rw [← hl] at q'
        exact d_len I (.inl h1) fun t s' I' => ⟨.int kws.length, H, I', ⟨t, rfl⟩, q'⟩
    · cases e1
  · -- all
    obtain ⟨x, rfl, rx⟩ := rd.one
    obtain ⟨bs, e1, rfl⟩ := some_map e
    obtain ⟨xs, e2, e3⟩ := some_bind e1
    obtain ⟨a, vs, rfl, h1, h2, h3⟩ := lstD_ok rx e2
    obtain rfl := bools_ok h2 e3
    exact cr_all hc pins s σ H _ us Q I r ⟨a, bs, rfl, h1, q _ _ .bl⟩
  · -- any
    obtain ⟨x, rfl, rx⟩ := rd.one
    obtain ⟨bs, e1, rfl⟩ := some_map e
    obtain ⟨xs, e2, e3⟩ := some_bind e1
    obtain ⟨a, vs, rfl, h1, h2, h3⟩ := lstD_ok rx e2
    obtain rfl := bools_ok h2 e3
    exact cr_any hc pins s σ H _ us Q I r ⟨a, bs, rfl, h1, q _ _ .bl⟩
  · -- sum
    obtain ⟨x, rfl, rx⟩ := rd.one
    obtain ⟨bs, e1, rfl⟩ := some_map e
    obtain ⟨xs, e2, e3⟩ := some_bind e1
    obtain ⟨a, vs, rfl, h1, h2, h3⟩ := lstD_ok rx e2
    obtain rfl := ints_ok h2 e3
    exact cr_sum hc pins s σ H _ us Q I r ⟨a, bs, rfl, h1, q _ _ .int⟩
  · -- min
    cases e
    obtain ⟨x, y, rfl, rx, ry⟩ := rd.two
    cases rx.int; cases ry.int
    exact call_min2 hc pins s σ H _ us Q I r ⟨_, _, rfl, q _ _ .int⟩
  · -- max
    cases e
    obtain ⟨x, y, rfl, rx, ry⟩ := rd.two
    cases rx.int; cases ry.int
    exact call_max2 hc pins s σ H _ us Q I r ⟨_, _, rfl, q _ _ .int⟩
  · -- abs
    cases e
    obtain ⟨x, rfl, rx⟩ := rd.one
    cases rx.int
    exact call_abs pins s σ H _ us Q I r ⟨_, rfl, q _ _ .int⟩
  · -- int
    cases e
    obtain ⟨x, rfl, rx⟩ := rd.one
    cases rx.int
    exact call_int1 pins s σ H _ us Q I r (.inl ⟨_, rfl, q _ _ .int⟩)
  · cases e
    obtain ⟨x, rfl, rx⟩ := rd.one
    cases rx.bl
    exact call_int1 pins s σ H _ us Q I r (.inr ⟨_, rfl, q _ _ .int⟩)
  · split at e
    · rename_i hl
      obtain ⟨n, e1, rfl⟩ := some_map e
      obtain ⟨x, rfl, rx⟩ := rd.one
      obtain ⟨rfl, _, _⟩ := rx.str
      exact call_int_str pins s σ H _ us Q I r ⟨_, n, rfl, e1, hl, q _ _ .int⟩
    · cases e
  · -- str
    split at e
    · rename_i hl
      cases e
      simp only [Bool.and_eq_true, decide_eq_true_eq] at hl
      obtain ⟨x, rfl, rx⟩ := rd.one
      cases rx.int
      exact call_str_int pins s σ H _ us Q I r ⟨_, rfl, hl.1, q _ _ (.str hl.2 (int_text_fits hl.1))⟩
    · cases e
  · -- list
    obtain ⟨x, rfl, rx⟩ := rd.one
    obtain ⟨xs, e1, rfl⟩ := some_map e
    obtain ⟨a, vs, rfl, h1, h2, h3, _⟩ := seq_ok rx e1
    exact call_list_of pins s σ H _ us Q I r ⟨a, vs, rfl, h1, fun l hl => q _ _ (.newL hl h2 h3)⟩
  · -- tuple
    obtain ⟨x, rfl, rx⟩ := rd.one
    obtain ⟨xs, e1, rfl⟩ := some_map e
    obtain ⟨a, vs, rfl, h1, h2, h3, h4, h5, h6⟩ := seq_ok rx e1
    rcases h6 with h6 | h6
    · exact call_tuple_of pins s σ H _ us Q I r ⟨a, vs, rfl, .inl ⟨h5 h6, fun l hl => q _ _ (.newT hl (fun z => hW l z hl) h2 h3)⟩⟩
    · exact call_tuple_of pins s σ H _ us Q I r ⟨a, vs, rfl, .inr ⟨(h4 h6).2, q _ _ (.atom (h4 h6).1)⟩⟩
  · -- str str
    cases e
    obtain ⟨x, rfl, rx⟩ := rd.one
    obtain ⟨rfl, h1, h2⟩ := rx.str
    exact SkE.call_str_str pins s σ H _ us Q I r ⟨_, rfl, q _ _ (.str h1 h2)⟩
  · cases e
    obtain ⟨x, rfl, rx⟩ := rd.one
    cases rx.int
    exact call_bool1 pins s σ H _ us Q I r (.inl ⟨_, rfl, q _ _ .bl⟩)
  · cases e
    obtain ⟨x, rfl, rx⟩ := rd.one
    cases rx.bl
    exact call_bool1 pins s σ H _ us Q I r (.inr ⟨_, rfl, q _ _ .bl⟩)
  · split at e
    · rename_i hl
      cases e
      simp only [Bool.and_eq_true, decide_eq_true_eq] at hl
      obtain ⟨x, rfl, rx⟩ := rd.one
      obtain ⟨u, rfl, ru⟩ := vals1 r
      exact call_repr' hg hu I ru rx hl.1.1.1.1 hl.1.1.1.2 hl.1.1.2 hl.1.2 (q _ _ (.str hl.2 hl.1.2))
    · cases e
  · cases e
/-! ### methods that change nothing -/
def rMt (K : PySem.W.Frag) (mg : Str → Option Value) (m : String) : V → List V → Hp → VK → Prop := fun x vs H Q => ∃ (W : Addr → Prop) (a : D) (ds : List D) (rv : RV), RepB K mg W H a x ∧ RepBs K mg W H ds vs ∧ (m = "get" → RepA K mg W H ds vs) ∧ methD m a ds = some rv ∧
  ∀ v H', PostV K mg W H rv v H' → Q v H'
/-- whose method -/
def mtT (m : String) : String := if m == "get" then "dict" else "str"
theorem mt_any (hu : X.A.units + 100 < cLine) (m : String) : MtR X (mtT m ++ "." ++ m) (rMt X.K X.mg m) := by
  intro pins s σ H x xs v us Q I rx r h
  obtain ⟨W, a, ds, rv, ra, rd, rA, e, q⟩ := h
  unfold methD at e
  split at e
  · cases e
    obtain ⟨y, rfl, ry⟩ := rd.one
    obtain ⟨rfl, _, _⟩ := ra.str
    obtain ⟨rfl, _, _⟩ := ry.str
    exact mt_startswith pins s σ H _ _ v us Q I rx r ⟨_, _, rfl, rfl, q _ _ .bl⟩
  · obtain ⟨ys, e1, e2⟩ := some_bind e
    obtain ⟨zs, e3, e4⟩ := some_bind e1
    split at e2
    · rename_i hl
      cases e2
      simp only [Bool.and_eq_true, decide_eq_true_eq] at hl
      obtain ⟨y, rfl, ry⟩ := rd.one
      obtain ⟨rfl, _, _⟩ := ra.str
      obtain ⟨p, vs, rfl, h1, h2, h3, _⟩ := seq_ok ry e3
      obtain ⟨rfl, _⟩ := strs_ok h2 e4
      exact mt_join pins s σ H _ _ v us Q I rx r ⟨_, p, ys, rfl, rfl, h1, hl.1.1, q _ _ (.str hl.2 hl.1.2)⟩
    · cases e2
  · split at e
    · rename_i ho
      cases e
      obtain ⟨y, rfl, ry⟩ := rd.one
      obtain ⟨rfl, _, _⟩ := ra.str
      obtain ⟨rfl, _, _⟩ := ry.str
      exact mt_sindex pins s σ H _ _ v us Q I rx r ⟨_, _, _, _, rfl, rfl, ho, q _ _ .int⟩
    · cases e
  · cases e
    obtain ⟨y, rfl, ry⟩ := rd.one
    obtain ⟨rfl, _, _⟩ := ra.str
    obtain ⟨rfl, _, _⟩ := ry.str
    exact mt_endswith pins s σ H _ _ v us Q I rx r ⟨_, _, rfl, rfl, q _ _ .bl⟩
  · cases e
    obtain ⟨y, rfl, ry⟩ := rd.one
    obtain ⟨rfl, _, _⟩ := ra.str
    obtain ⟨rfl, _, _⟩ := ry.str
    exact mt_find pins s σ H _ _ v us Q I rx r ⟨_, _, rfl, rfl, q _ _ .int⟩
  · cases e
    obtain ⟨y, rfl, ry⟩ := rd.one
    obtain ⟨rfl, _, _⟩ := ra.str
    obtain ⟨rfl, _, _⟩ := ry.str
    exact mt_count pins s σ H _ _ v us Q I rx r ⟨_, _, rfl, rfl, q _ _ .int⟩
  · split at e
    · rename_i hl
      cases e
      simp only [Bool.and_eq_true, Bool.not_eq_true'] at hl
      obtain ⟨y, rfl, ry⟩ := rd.one
      obtain ⟨k, rfl⟩ := keyOk_of hl.1
      have hk := keyRep ry
      subst hk
      obtain ⟨p, kws, rfl, hr, hk, hv, hz⟩ := ra.dic hl.2
      cases rx
      obtain ⟨u, rfl, ru⟩ := vals1 r
      refine d_get1 (by omega) I (.inl ⟨kws, k, .inl hr, rfl, rfl⟩) ru fun w' s' I' rw' => ⟨_, H, I', rw', q _ _ (.atom ?_)⟩
      rcases look_ok k hk hv with ⟨h1, h2⟩ | ⟨d', w, h1, h2, h3⟩
      · rw [h1, h2]; exact .non
      · rw [h1, h2]; exact h3
    · cases e
  · split at e
    · rename_i hl
      cases e
      simp only [Bool.and_eq_true, Bool.not_eq_true'] at hl
      obtain ⟨y, z, rfl, ry, _⟩ := rd.two
      obtain ⟨k, rfl⟩ := keyOk_of hl.1
      have hk := keyRep ry
      subst hk
      obtain ⟨p, kws, rfl, hr, hk, hv, hz⟩ := ra.dic hl.2
      cases rx
      obtain ⟨u, w2, rfl, ru, rw2⟩ := vals2 r
      refine d_get2 (by omega) I (.inl ⟨kws, k, .inl hr, rfl, rfl⟩) ru rw2 fun w' s' I' rw' => ⟨_, H, I', rw', q _ _ (.atom ?_)⟩
      rcases look_ok k hk hv with ⟨h1, h2⟩ | ⟨d', w, h1, h2, h3⟩
      · rw [h1, h2]
        cases rA rfl with
        | cons _ r2 => cases r2 with
          | cons r3 _ => exact r3
      · rw [h1, h2]; exact h3
    · cases e
  · cases e
/-! ### truth -/
theorem tru_V {K : PySem.W.Frag} {mg : Str → Option Value} {W : Addr → Prop} {H : Hp} {x : V} {d : D} {k : Bool} (r : RepB K mg W H d x) (e : truD d = some k) : TruV K x H k := by
  cases d with
  | none => obtain rfl := r.non; cases e; exact rfl
  | bool b => obtain rfl := r.bl; cases e; exact rfl
  | int i => obtain rfl := r.int; cases e; exact rfl
  | str y =>
    obtain ⟨rfl, _, small⟩ := r.str
    cases e
    refine ⟨small, ?_⟩
    cases y.length with
    | zero => rfl
    | succ m =>
      have : ¬ ((m + 1 : Nat) : Int) = 0 := by omega
      rw [bne_iff_ne.mpr this]
      rfl
  | list xs =>
    obtain ⟨a, vs, rfl, at', items, _⟩ := r.lst
    cases e
    exact .inl ⟨vs, at', by cases items <;> rfl⟩
  | tuple xs =>
    obtain ⟨a, vs, rfl, at', items, _⟩ := r.tup
    cases e
    exact .inr (.inl ⟨vs, at', by cases items <;> rfl⟩)
  | dict kvs =>
    replace e : (if isFnB kvs then none else some (!kvs.isEmpty)) = some k := e
    split at e
    · cases e
    · rename_i nf
      cases e
      obtain ⟨a, kws, rfl, at', keys, _⟩ := r.dic (by simpa using nf)
      refine .inr (.inr ⟨kws, at', ?_⟩)
      cases kvs <;> cases kws <;> first | rfl | cases keys
end
end GS

/-! GS8: the wishes of the evaluator, frozen slots, lists of values. -/
namespace GS
open PySem PySem.Spec PyProof.Rows L2

section
variable {K : PySem.W.Frag} {mg : Str → Option Value} {W0 : Addr → Prop} {s s' s1 s2 : Ev} {σ σ' σ1 : L2.St} {H H' H1 H2 : Hp} {v : V} {rv : RV} {i : Nat}
theorem set_ne {x : Sl} {j : Nat} (h : i ≠ j) : (s.set i x)[j]? = s[j]? := List.getElem?_set_ne h
theorem set_at {x : Sl} (h : i < s.length) : (s.set i x)[i]? = some x := List.getElem?_set_self h
theorem lt_of {x : Sl} (h : s[i]? = some x) : i < s.length := (List.getElem?_eq_some_iff.mp h).1
theorem own_at {o : Ob} (h : s[i]? = some (.own o)) : ownAt s i = some o := by unfold ownAt; rw [h]
theorem io_at {o : Ob} (h : s[i]? = some (.io o)) : ownAt s i = some o := by unfold ownAt; rw [h]
/-- the slot i gives up what it owned -/
theorem own_less {x : Sl} (hx : isOwn (some x) = false) {a : Addr} (h : OwnP (s.set i x) σ a) : OwnP s σ a ∧ (i < s.length → σ[i]? = some (some (.ref a)) → ∃ j, j ≠ i ∧ isOwn s[j]? = true ∧ σ[j]? = some (some (.ref a))) := by
  obtain ⟨j, h1, h2⟩ := h
  by_cases e : i = j
  · subst e
    by_cases hl : i < s.length
    · rw [set_at hl] at h1; rw [hx] at h1; cases h1
    · rw [List.getElem?_set] at h1
      rw [if_pos rfl, if_neg hl] at h1
      cases h1
  · rw [set_ne e] at h1
    exact ⟨⟨j, h1, h2⟩, fun _ _ => ⟨j, Ne.symm e, h1, h2⟩⟩
theorem Rel.frz {o : Ob} (R : Rel K mg W0 s σ H) (h : s[i]? = some (.own o)) : Rel K mg W0 (s.set i (.val o.toD)) σ H ∧ Mv s σ H (s.set i (.val o.toD)) σ H := by
  have hl := lt_of h
  obtain ⟨p, hp, n0, ob⟩ := R.own i o (own_at h)
  have less : ∀ a, OwnP (s.set i (.val o.toD)) σ a → OwnP s σ a := fun a z => (own_less rfl z).1
  have k : Keep (Wf W0 s σ) H (Wf W0 (s.set i (.val o.toD)) σ) H := ⟨fun a u h _ => h, fun a z => .inl (z.imp id (less a))⟩
  have np : ¬ Wf W0 (s.set i (.val o.toD)) σ p := fun z => z.elim n0 fun z => by
    obtain ⟨j, h1, h2, h3⟩ := (own_less rfl z).2 hl hp
    exact h1 (R.dis j i p h2 (by rw [h]; rfl) h3 hp)
  refine ⟨⟨by rw [List.length_set]; exact R.len, R.out, fun j d hj => ?_, fun j q hj => ?_, fun j m a h1 h2 h3 h4 => ?_⟩, ⟨fun _ _ h _ => h, fun a z => .inl (less a z), fun _ h => h, fun j hj => ?_⟩⟩
  · by_cases e : i = j
    · subst e
      rw [set_at hl] at hj
      cases hj
      exact ⟨_, hp, (ob.mv k fun _ h => h).rep np⟩
    · rw [set_ne e] at hj
      obtain ⟨v, h1, h2⟩ := R.val j d hj
      exact ⟨v, h1, h2.mv k⟩
  · by_cases e : i = j
    · subst e
      unfold ownAt at hj
      rw [set_at hl] at hj
      cases hj
    · unfold ownAt at hj
      rw [set_ne e] at hj
      obtain ⟨a, h1, h2, h3⟩ := R.own j q hj
      exact ⟨a, h1, h2, h3.mv k fun _ h => h⟩
  · have g : ∀ n : Nat, isOwn (s.set i (.val o.toD))[n]? = true → isOwn s[n]? = true := fun n hn => by
      by_cases e : i = n
      · subst e; rw [h]; rfl
      · rw [set_ne e] at hn; exact hn
    exact R.dis j m a (g j h1) (g m h2) h3 h4
  · by_cases e : i = j
    · subst e
      rw [h] at hj
      cases hj
    · rw [set_ne e]
      exact ⟨hj, rfl⟩
theorem frz_ok {d : D} (R : Rel K mg W0 s σ H) (op : OpRep K mg W0 s σ H v rv.opd) (e : frz rv s = .ok d s') : Rel K mg W0 s' σ H ∧ Mv s σ H s' σ H ∧ Rep K mg (Wf W0 s' σ) H d v := by
  cases rv with
  | d x =>
    cases e
    exact ⟨R, .refl, op⟩
  | own o =>
    cases e
    exact ⟨R, .refl, op⟩
  | sl i =>
    have op : σ[i]? = some (some v) := op
    have e : (match s[i]? with
      | some (.val d) => Rs.ok d s
      | some (.own o) => .ok o.toD (s.set i (.val o.toD))
      | _ => .stuck) = .ok d s' := e
    split at e
    · rename_i q
      cases e
      obtain ⟨u, h1, h2⟩ := R.val i _ q
      rw [op] at h1
      cases h1
      exact ⟨R, .refl, h2⟩
    · rename_i o q
      cases e
      obtain ⟨R', m⟩ := R.frz q
      obtain ⟨u, h1, h2⟩ := R'.val i o.toD (set_at (lt_of q))
      rw [op] at h1
      cases h1
      exact ⟨R', m, h2⟩
    · cases e
theorem wpG_frz {P : D → Ev → Prop} {E : Xn → Ev → Prop} (h : wpG (GS.frz rv s) P E) : ∃ d s', GS.frz rv s = .ok d s' ∧ P d s' := by
  cases e : GS.frz rv s with
  | ok d s' => rw [e] at h; exact ⟨d, s', rfl, h⟩
  | stuck => rw [e] at h; exact h.elim
  | er x s' =>
    exfalso
    cases rv with
    | d x => cases e
    | own o => cases e
    | sl i =>
      unfold GS.frz at e
      simp only at e
      split at e <;> cases e
/-! ### lists of values -/
inductive OpReps (K : PySem.W.Frag) (mg : Str → Option Value) (W0 : Addr → Prop) (s : Ev) (σ : L2.St) (H : Hp) : List RV → List V → Prop
  | nil : OpReps K mg W0 s σ H [] []
  | cons {rv : RV} {v : V} {rvs : List RV} {vs : List V} (h : OpRep K mg W0 s σ H v rv.opd) (r : OpReps K mg W0 s σ H rvs vs) : OpReps K mg W0 s σ H (rv :: rvs) (v :: vs)
theorem OpReps.mv {rvs : List RV} {vs : List V} (m : Mv s σ H s' σ H') (h : OpReps K mg W0 s σ H rvs vs) : OpReps K mg W0 s' σ H' rvs vs := by
  induction h with
  | nil => exact .nil
  | cons h _ ih => exact .cons (h.mv m) ih
theorem getAll_ok {rvs : List RV} {vs : List V} (R : Rel K mg W0 s σ H) (h : OpReps K mg W0 s σ H rvs vs) : ∀ {ds : List D}, getAll s (rvs.map RV.opd) = some ds → RepBs K mg (Wf W0 s σ) H ds vs := by
  induction h with
  | nil => intro ds e; cases e; exact .nil
  | @cons rv v rvs vs h r ih =>
    intro ds e
    have e : (match rv.opd.get s, getAll s (rvs.map RV.opd) with
      | some d, some ds => some (d :: ds)
      | _, _ => none) = some ds := e
    split at e
    · rename_i d es e1 e2
      cases e
      exact .cons (h.get R e1) (ih e2)
    · cases e
theorem frzL_ok : ∀ {rvs : List RV} {vs : List V} {s : Ev} {ds : List D}, Rel K mg W0 s σ H → OpReps K mg W0 s σ H rvs vs → frzL rvs s = .ok ds s' → Rel K mg W0 s' σ H ∧ Mv s σ H s' σ H ∧ RepA K mg (Wf W0 s' σ) H ds vs
  | [], _, _, _, R, .nil, e => by cases e; exact ⟨R, .refl, .nil⟩
  | rv :: rvs, _, s, ds, R, .cons h r, e => by
    have e : ((GS.frz rv s).bind fun d s => (frzL rvs s).bind fun ds s => .ok (d :: ds) s) = .ok ds s' := e
    cases e1 : GS.frz rv s with
    | er x s1 => rw [e1] at e; cases e
    | stuck => rw [e1] at e; cases e
    | ok d s1 =>
      rw [e1] at e
      have e : ((frzL rvs s1).bind fun ds s => .ok (d :: ds) s) = .ok ds s' := e
      obtain ⟨R1, m1, h1⟩ := frz_ok R h e1
      cases e2 : frzL rvs s1 with
      | er x s1 => rw [e2] at e; cases e
      | stuck => rw [e2] at e; cases e
      | ok es s2 =>
        rw [e2] at e
        cases e
        obtain ⟨R2, m2, h2⟩ := frzL_ok R1 (r.mv m1) e2
        exact ⟨R2, m1.trans m2, .cons (h1.mv m2.kp) h2⟩
theorem wpG_frzL : ∀ {rvs : List RV} {s : Ev} {P : List D → Ev → Prop} {E : Xn → Ev → Prop}, wpG (frzL rvs s) P E → ∃ d s', frzL rvs s = .ok d s' ∧ P d s'
  | [], s, _, _, h => ⟨_, _, rfl, h⟩
  | rv :: rvs, s, P, E, h => by
    have h : wpG ((GS.frz rv s).bind fun d s => (frzL rvs s).bind fun ds s => .ok (d :: ds) s) P E := h
    obtain ⟨d, s1, e1, h1⟩ := wpG_frz (wpG_bind.mp h)
    obtain ⟨ds, s2, e2, h2⟩ := wpG_frzL (wpG_bind.mp h1)
    refine ⟨d :: ds, s2, ?_, h2⟩
    show ((GS.frz rv s).bind fun d s => (frzL rvs s).bind fun ds s => .ok (d :: ds) s) = _
    rw [e1]
    show ((frzL rvs s1).bind fun ds s => Rs.ok (d :: ds) s) = _
    rw [e2]
    rfl
structure PostL (K : PySem.W.Frag) (mg : Str → Option Value) (W0 : Addr → Prop) (s : Ev) (σ : L2.St) (H : Hp) (rvs : List RV) (s' : Ev) (vs : List V) (H' : Hp) : Prop where
  mv : Mv s σ H s' σ H'
  rel : Rel K mg W0 s' σ H'
  ops : OpReps K mg W0 s' σ H' rvs vs
theorem PostX.pre {x : Xn} {c : Value} {d : Option Addr} (m : Mv s σ H s1 σ H1) (P : PostX K mg W0 s1 σ H1 x s' c d H') : PostX K mg W0 s σ H x s' c d H' := ⟨m.trans P.mv, P.rel, P.xn⟩
theorem PostE.pre (m : Mv s σ H s1 σ H1) (P : PostE K mg W0 s1 σ H1 rv s' v H') : PostE K mg W0 s σ H rv s' v H' := by
  refine ⟨m.trans P.mv, ?_⟩
  have r := P.rep
  cases rv with
  | d d => exact r
  | sl i => exact r
  | own o =>
    obtain ⟨p, h1, h2, h3⟩ := r
    exact ⟨p, h1, m.fresh h2, h3⟩
end

/-! ### the evaluator's wishes -/
section
variable (O : Ora) (K : PySem.W.Frag) (mg : Str → Option Value) (Wx : L2.WX)
def tE (e : GS.CE) : TE := fun σ H Q => ∃ W0 s, Rel K mg W0 s σ H ∧ wpG (ev O e s) (fun rv s' => ∀ v H', PostE K mg W0 s σ H rv s' v H' → Q v H') (fun x s' => ∀ c d H', PostX K mg W0 s σ H x s' c d H' → Wx c d σ H')
def tEs (es : CEs) : TA := fun σ H Q => ∃ W0 s, Rel K mg W0 s σ H ∧ wpG (evs O es s) (fun rvs s' => ∀ vs H', PostL K mg W0 s σ H rvs s' vs H' → Q vs H') (fun x s' => ∀ c d H', PostX K mg W0 s σ H x s' c d H' → Wx c d σ H')
def tT (e : GS.CE) : TT := fun σ H Q => ∃ W0 s, Rel K mg W0 s σ H ∧ wpG (evB O e s) (fun b s' => ∀ H', Mv s σ H s' σ H' → Rel K mg W0 s' σ H' → Q b H') (fun x s' => ∀ c d H', PostX K mg W0 s σ H x s' c d H' → Wx c d σ H')
end
section
variable {O : Ora} {K : PySem.W.Frag} {mg : Str → Option Value} {Wx : L2.WX} {W0 : Addr → Prop} {s s' s1 : Ev} {σ : L2.St} {H H' H1 : Hp}
theorem PE.imp {X : Cx} {e : Expr} {t t' : TE} (h : L2.PE X e t) (i : ∀ σ H Q, t' σ H Q → t σ H Q) : L2.PE X e t' := ⟨fun pins s σ H Q I q => h.run pins s σ H Q I (i σ H Q q)⟩
theorem PT.imp {X : Cx} {e : Expr} {t t' : TT} (h : L2.PT X e t) (i : ∀ σ H Q, t' σ H Q → t σ H Q) : L2.PT X e t' := ⟨fun pins s σ H Q I q => h.run pins s σ H Q I (i σ H Q q)⟩
theorem PW.imp {X : Cx} {e : Expr} {t t' : TT} (h : L2.PW X e t) (i : ∀ σ H Q, t' σ H Q → t σ H Q) : L2.PW X e t' := ⟨fun wh pins s σ H Q I q => h.run wh pins s σ H Q I (i σ H Q q)⟩
theorem PA.imp {X : Cx} {e : List Expr} {t t' : TA} (h : L2.PA X e t) (i : ∀ σ H Q, t' σ H Q → t σ H Q) : L2.PA X e t' := ⟨fun pos pins s σ H Q I q => h.run pos pins s σ H Q I (i σ H Q q)⟩
/-- an expression's wish, its exceptions as one wants them -/
theorem tE_of {e : GS.CE} {P : RV → Ev → Prop} {E : Xn → Ev → Prop} {Q : VK} (R : Rel K mg W0 s σ H) (h : wpG (ev O e s) P E) (p : ∀ rv s' v H', PostE K mg W0 s σ H rv s' v H' → P rv s' → Q v H')
    (x : ∀ x s', E x s' → ∀ c d H', PostX K mg W0 s σ H x s' c d H' → Wx c d σ H') : tE O K mg Wx e σ H Q :=
  ⟨W0, s, R, h.mono (fun rv s' hp v H' po => p rv s' v H' po hp) fun y s' he => x y s' he⟩
theorem tEs_of {e : CEs} {P : List RV → Ev → Prop} {E : Xn → Ev → Prop} {Q : List V → Hp → Prop} (R : Rel K mg W0 s σ H) (h : wpG (evs O e s) P E) (p : ∀ rv s' v H', PostL K mg W0 s σ H rv s' v H' → P rv s' → Q v H')
    (x : ∀ x s', E x s' → ∀ c d H', PostX K mg W0 s σ H x s' c d H' → Wx c d σ H') : tEs O K mg Wx e σ H Q :=
  ⟨W0, s, R, h.mono (fun rv s' hp v H' po => p rv s' v H' po hp) fun y s' he => x y s' he⟩
theorem tT_of {e : GS.CE} {P : Bool → Ev → Prop} {E : Xn → Ev → Prop} {Q : Bool → Hp → Prop} (R : Rel K mg W0 s σ H) (h : wpG (evB O e s) P E) (p : ∀ b s' H', Mv s σ H s' σ H' → Rel K mg W0 s' σ H' → P b s' → Q b H')
    (x : ∀ x s', E x s' → ∀ c d H', PostX K mg W0 s σ H x s' c d H' → Wx c d σ H') : tT O K mg Wx e σ H Q :=
  ⟨W0, s, R, h.mono (fun rv s' hp H' m R' => p rv s' H' m R' hp) fun y s' he => x y s' he⟩
/-- the words of an exception behind a step -/
theorem xpre {E : Xn → Ev → Prop} (m : Mv s σ H s1 σ H1) (h : ∀ x s', E x s' → ∀ c d H', PostX K mg W0 s σ H x s' c d H' → Wx c d σ H') : ∀ x s', E x s' → ∀ c d H', PostX K mg W0 s1 σ H1 x s' c d H' → Wx c d σ H' :=
  fun x s' e c d H' P => h x s' e c d H' (P.pre m)
abbrev EW (K : PySem.W.Frag) (mg : Str → Option Value) (Wx : L2.WX) (W0 : Addr → Prop) (s : Ev) (σ : L2.St) (H : Hp) : Xn → Ev → Prop := fun x s' => ∀ c d H', PostX K mg W0 s σ H x s' c d H' → Wx c d σ H'
theorem EW.id : ∀ x s', EW K mg Wx W0 s σ H x s' → ∀ c d H', PostX K mg W0 s σ H x s' c d H' → Wx c d σ H' := fun _ _ h => h

/-! ### constructs -/
variable {a b c : GS.CE} {es fs : CEs} {Q : VK}
theorem cs_var {i : Nat} (h : tE O K mg Wx (.var i) σ H Q) : tVar i σ H Q := by
  obtain ⟨W0, s, R, h⟩ := h
  have h : wpG (match s[i]? with
    | some (.val d) => Rs.ok (RV.d d) s
    | some (.own _) => .ok (.sl i) s
    | some (.io _) => .ok (.sl i) s
    | _ => .stuck) _ _ := h
  split at h
  · rename_i d e
    obtain ⟨v, h1, h2⟩ := R.val i d e
    exact ⟨v, h1, h v H ⟨.refl, R, h2⟩⟩
  · rename_i o e
    obtain ⟨p, h1, _⟩ := R.own i o (own_at e)
    exact ⟨_, h1, h _ H ⟨.refl, R, h1⟩⟩
  · rename_i o e
    obtain ⟨p, h1, _⟩ := R.own i o (io_at e)
    exact ⟨_, h1, h _ H ⟨.refl, R, h1⟩⟩
  · exact h.elim
theorem cs_con {d : D} {v : V} (r : ∀ W H, Rep K mg W H d v) (h : tE O K mg Wx (.con d) σ H Q) : tC v σ H Q := by
  obtain ⟨W0, s, R, h⟩ := h
  exact h v H ⟨.refl, R, r _ _⟩
theorem cs_glob {x : Str} {v : V} (r : ∀ d, O.G x = some d → ∀ W H, Rep K mg W H d v) (h : tE O K mg Wx (.glob x) σ H Q) : tC v σ H Q := by
  obtain ⟨W0, s, R, h⟩ := h
  obtain ⟨rv, e, h⟩ := wpG_opt h
  obtain ⟨d, e', rfl⟩ := Option.map_eq_some_iff.mp e
  exact h v H ⟨.refl, R, r d e' _ _⟩
/-- two operands, then a step -/
theorem two {P : RV → Ev → Prop} {E : Xn → Ev → Prop} {f : RV → RV → Ev → Rs RV} {r : V → V → Hp → VK → Prop} (R : Rel K mg W0 s σ H) (h : wpG ((ev O a s).bind fun x s => (ev O b s).bind fun y s => f x y s) P E)
    (x : ∀ x s', E x s' → ∀ c d H', PostX K mg W0 s σ H x s' c d H' → Wx c d σ H')
    (st : ∀ xv yv s2 v w H2, Mv s σ H s2 σ H2 → Rel K mg W0 s2 σ H2 → OpRep K mg W0 s2 σ H2 v xv.opd → OpRep K mg W0 s2 σ H2 w yv.opd → wpG (f xv yv s2) P E → r v w H2 Q) :
    tE O K mg Wx a σ H fun v H1 => tE O K mg Wx b σ H1 fun w H2 => r v w H2 Q :=
  tE_of R (wpG_bind.mp h) (fun xv s1 v H1 P1 h1 => tE_of P1.rel (wpG_bind.mp h1) (fun yv s2 w H2 P2 h2 => st xv yv s2 v w H2 (P1.mv.trans P2.mv) P2.rel (P1.op.mv P2.mv) P2.op h2) (xpre P1.mv x)) x
theorem wf_trk (R : Rel K mg W0 s σ H) : ∀ p, Wf W0 s σ p → H p ≠ none := fun _ h => R.wTrk h
theorem cs_bin {o : Operator} (h : tE O K mg Wx (.bin o a b) σ H Q) : tOp (rBin K mg o) (tE O K mg Wx a) (tE O K mg Wx b) σ H Q := by
  obtain ⟨W0, s, R, h⟩ := h
  refine two R h EW.id fun xv yv s2 v w H2 m R2 ov ow h => ?_
  split at h
  · rename_i d1 d2 e1 e2
    obtain ⟨rv, e, h⟩ := wpG_opt h
    exact ⟨_, d1, d2, rv, wf_trk R2, ov.get R2 e1, ow.get R2 e2, e, fun v' H' P => h v' H' (P.post R2 m)⟩
  · exact h.elim
theorem cs_cmp {o : CmpOp} (h : tE O K mg Wx (.cmp o a b) σ H Q) : tOp (rCmp K mg o) (tE O K mg Wx a) (tE O K mg Wx b) σ H Q := by
  obtain ⟨W0, s, R, h⟩ := h
  refine two R h EW.id fun xv yv s2 v w H2 m R2 ov ow h => ?_
  split at h
  · rename_i d1 d2 e1 e2
    obtain ⟨rv, e, h⟩ := wpG_opt h
    obtain ⟨c, e', rfl⟩ := Option.map_eq_some_iff.mp e
    exact ⟨_, d1, d2, c, ov.get R2 e1, ow.get R2 e2, e', h _ _ ⟨m, R2, .bl _⟩⟩
  · exact h.elim
theorem cs_idx (h : tE O K mg Wx (.idx a b) σ H Q) : tOp (rIdx K mg) (tE O K mg Wx a) (tE O K mg Wx b) σ H Q := by
  obtain ⟨W0, s, R, h⟩ := h
  refine two R h EW.id fun xv yv s2 v w H2 m R2 ov ow h => ?_
  split at h
  · rename_i d1 d2 e1 e2
    obtain ⟨rv, e, h⟩ := wpG_opt h
    obtain ⟨c, e', rfl⟩ := Option.map_eq_some_iff.mp e
    exact ⟨_, d1, d2, c, ov.get R2 e1, ow.get R2 e2, e', fun v' r => h _ _ ⟨m, R2, r⟩⟩
  · exact h.elim
theorem cs_chain {o p : CmpOp} (h : tE O K mg Wx (.chain o p a b c) σ H Q) : tChain (rCmp K mg o) (rCmp K mg p) (tE O K mg Wx a) (tE O K mg Wx b) (tE O K mg Wx c) σ H Q := by
  obtain ⟨W0, s, R, h⟩ := h
  refine tE_of R (wpG_bind.mp h) (fun xv s1 v H1 P1 h1 => tE_of P1.rel (wpG_bind.mp h1) (fun yv s2 w H2 P2 h2 => ?_) (xpre P1.mv EW.id)) EW.id
  split at h2
  · rename_i d1 d2 e1 e2
    split at h2
    · rename_i e3
      refine ⟨_, d1, d2, true, (P1.op.mv P2.mv).get P2.rel e1, P2.op.get P2.rel e2, e3, true, rfl, ?_⟩
      rw [if_pos rfl]
      have m := P1.mv.trans P2.mv
      refine tE_of P2.rel (wpG_bind.mp h2) (fun zv s3 u H3 P3 h3 => ?_) (xpre m EW.id)
      split at h3
      · rename_i d3 d4 e4 e5
        obtain ⟨rv, e, h⟩ := wpG_opt h3
        obtain ⟨c, e', rfl⟩ := Option.map_eq_some_iff.mp e
        exact ⟨_, d3, d4, c, (P2.op.mv P3.mv).get P3.rel e4, P3.op.get P3.rel e5, e', h _ _ ⟨m.trans P3.mv, P3.rel, .bl _⟩⟩
      · exact h3.elim
    · rename_i e3
      refine ⟨_, d1, d2, false, (P1.op.mv P2.mv).get P2.rel e1, P2.op.get P2.rel e2, e3, false, rfl, ?_⟩
      rw [if_neg (by decide)]
      exact h2 _ _ ⟨P1.mv.trans P2.mv, P2.rel, .bl _⟩
    · exact h2.elim
  · exact h2.elim
/-- a value's truth, then a step -/
theorem tru_of {rv : RV} {v : V} {k : Bool} (R : Rel K mg W0 s σ H) (op : OpRep K mg W0 s σ H v rv.opd) (e : (rv.opd.get s).bind truD = some k) : TruV K v H k := by
  obtain ⟨d, e1, e2⟩ := Option.bind_eq_some_iff.mp e
  exact tru_V (op.get R e1) e2
def tNeg (t : TE) : TE := fun σ H Q => t σ H fun x H1 => ∃ i, x = .int i ∧ Q (.int (-i)) H1
theorem cs_neg (h : tE O K mg Wx (.neg a) σ H Q) : tNeg (tE O K mg Wx a) σ H Q := by
  obtain ⟨W0, s, R, h⟩ := h
  refine tE_of R (wpG_bind.mp h) (fun xv s1 v H1 P1 h1 => ?_) EW.id
  split at h1
  · rename_i i
    have r := P1.rep
    have e : v = .int i := by cases r.2; rfl
    exact ⟨i, e, h1 _ _ ⟨P1.mv, r.1, .int _⟩⟩
  · exact h1.elim
theorem cs_not (h : tE O K mg Wx (.not a) σ H Q) : tNotT K (tE O K mg Wx a) σ H Q := by
  obtain ⟨W0, s, R, h⟩ := h
  refine tE_of R (wpG_bind.mp h) (fun xv s1 v H1 P1 h1 => ?_) EW.id
  obtain ⟨rv, e, h⟩ := wpG_opt h1
  obtain ⟨k, e', rfl⟩ := Option.map_eq_some_iff.mp e
  exact ⟨k, tru_of P1.rel P1.op e', h _ _ ⟨P1.mv, P1.rel, .bl _⟩⟩
theorem cs_and (h : tE O K mg Wx (.and a b) σ H Q) : tAndT K (tE O K mg Wx a) (tE O K mg Wx b) σ H Q := by
  obtain ⟨W0, s, R, h⟩ := h
  refine tE_of R (wpG_bind.mp h) (fun xv s1 v H1 P1 h1 => ?_) EW.id
  split at h1
  · rename_i e
    refine ⟨true, tru_of P1.rel P1.op e, ?_⟩
    rw [if_pos rfl]
    exact tE_of P1.rel h1 (fun yv s2 w H2 P2 h2 => h2 _ _ (P2.pre P1.mv)) (xpre P1.mv EW.id)
  · rename_i e
    refine ⟨false, tru_of P1.rel P1.op e, ?_⟩
    rw [if_neg (by decide)]
    exact h1 _ _ P1
  · exact h1.elim
theorem cs_or (h : tE O K mg Wx (.or a b) σ H Q) : tOrT K (tE O K mg Wx a) (tE O K mg Wx b) σ H Q := by
  obtain ⟨W0, s, R, h⟩ := h
  refine tE_of R (wpG_bind.mp h) (fun xv s1 v H1 P1 h1 => ?_) EW.id
  split at h1
  · rename_i e
    refine ⟨true, tru_of P1.rel P1.op e, ?_⟩
    rw [if_pos rfl]
    exact h1 _ _ P1
  · rename_i e
    refine ⟨false, tru_of P1.rel P1.op e, ?_⟩
    rw [if_neg (by decide)]
    exact tE_of P1.rel h1 (fun yv s2 w H2 P2 h2 => h2 _ _ (P2.pre P1.mv)) (xpre P1.mv EW.id)
  · exact h1.elim
theorem cs_ite (h : tE O K mg Wx (.ite c a b) σ H Q) : tIf (tT O K mg Wx c) (tE O K mg Wx a) (tE O K mg Wx b) σ H Q := by
  obtain ⟨W0, s, R, h⟩ := h
  have h : wpG ((ev O c s).bind fun x s => match (x.opd.get s).bind truD with
    | some true => ev O a s
    | some false => ev O b s
    | none => .stuck) _ _ := h
  refine ⟨W0, s, R, ?_⟩
  unfold evB
  refine wpG_bind.mpr ((wpG_bind.mp h).mono (fun xv s1 h1 => ?_) fun _ _ h => h)
  split at h1
  · rename_i e
    rw [e]
    intro H' m R'
    rw [if_pos rfl]
    exact tE_of R' h1 (fun yv s2 w H2 P2 h2 => h2 _ _ (P2.pre m)) (xpre m EW.id)
  · rename_i e
    rw [e]
    intro H' m R'
    rw [if_neg (by decide)]
    exact tE_of R' h1 (fun yv s2 w H2 P2 h2 => h2 _ _ (P2.pre m)) (xpre m EW.id)
  · exact h1.elim
/-! ### lists of expressions -/
theorem cs_nil {Q : List V → Hp → Prop} (h : tEs O K mg Wx .nil σ H Q) : tNil σ H Q := by
  obtain ⟨W0, s, R, h⟩ := h
  exact h [] H ⟨.refl, R, .nil⟩
theorem cs_cons {Q : List V → Hp → Prop} (h : tEs O K mg Wx (.cons a es) σ H Q) : tCons (tE O K mg Wx a) (tEs O K mg Wx es) σ H Q := by
  obtain ⟨W0, s, R, h⟩ := h
  have h : wpG ((ev O a s).bind fun x s => (evs O es s).bind fun vs s => .ok (x :: vs) s) _ _ := h
  exact tE_of R (wpG_bind.mp h) (fun xv s1 v H1 P1 h1 => tEs_of P1.rel (wpG_bind.mp h1) (fun yv s2 w H2 P2 h2 => h2 _ _ ⟨P1.mv.trans P2.mv, P2.rel, .cons (P1.op.mv P2.mv) P2.ops⟩) (xpre P1.mv EW.id)) EW.id
theorem cs_tup (h : tE O K mg Wx (.tup es) σ H Q) : tTup (tEs O K mg Wx es) σ H Q := by
  obtain ⟨W0, s, R, h⟩ := h
  have h : wpG ((evs O es s).bind fun vs s => (frzL vs s).bind fun ds s => if ds.length ≤ sizeLine then Rs.ok (RV.d (.tuple ds)) s else .stuck) _ _ := h
  refine tEs_of R (wpG_bind.mp h) (fun rvs s1 vs H1 P1 h1 => ?_) EW.id
  obtain ⟨ds, s2, e, h2⟩ := wpG_frzL (wpG_bind.mp h1)
  obtain ⟨R2, m2, r2⟩ := frzL_ok P1.rel P1.ops e
  split at h2
  · rename_i hl
    refine ⟨r2.len ▸ hl, fun p hp => h2 _ _ ?_⟩
    have m := P1.mv.trans m2
    exact (PostV.newT hp (fun z => R2.wTrk z hp) r2 hl).post R2 m
  · exact h2.elim
theorem cs_lst (h : tE O K mg Wx (.lst es) σ H Q) : tLst (tEs O K mg Wx es) σ H Q := by
  obtain ⟨W0, s, R, h⟩ := h
  have h : wpG ((evs O es s).bind fun vs s => (frzL vs s).bind fun ds s => if ds.length ≤ sizeLine then Rs.ok (RV.own (.lst ds)) s else .stuck) _ _ := h
  refine tEs_of R (wpG_bind.mp h) (fun rvs s1 vs H1 P1 h1 => ?_) EW.id
  obtain ⟨ds, s2, e, h2⟩ := wpG_frzL (wpG_bind.mp h1)
  obtain ⟨R2, m2, r2⟩ := frzL_ok P1.rel P1.ops e
  split at h2
  · rename_i hl
    refine ⟨r2.len ▸ hl, fun p hp => h2 _ _ ?_⟩
    have m := P1.mv.trans m2
    exact (PostV.newL hp r2 hl).post R2 m
  · exact h2.elim
end
end GS

/-! GS9: calls of built-ins, methods, slices, dict displays. -/
namespace GS
open PySem PySem.Spec PyProof.Rows L2

section
variable {K : PySem.W.Frag} {mg : Str → Option Value} {W0 W : Addr → Prop} {s s' s1 : Ev} {σ : L2.St} {H H' H1 : Hp} {i : Nat} {p : Addr} {o o' : Ob}
theorem RepA.bs : ∀ {ds : List D} {vs : List V}, RepA K mg W H ds vs → RepBs K mg W H ds vs
  | _, _, .nil => .nil
  | _, _, .cons h r => .cons (.of h) (RepA.bs r)
/-! ### an owned object changes -/
theorem setOb_len : (setOb s i o).length = s.length := by
  unfold setOb
  split <;> rw [List.length_set]
theorem setOb_ne {j : Nat} (h : i ≠ j) : (setOb s i o)[j]? = s[j]? := by
  unfold setOb
  split <;> exact set_ne h
theorem setOb_at (h : ownAt s i = some o') : ownAt (setOb s i o) i = some o ∧ isOwn (setOb s i o)[i]? = true ∧ isIo (setOb s i o)[i]? = isIo s[i]? ∧ isOwn s[i]? = true := by
  unfold ownAt at h
  split at h
  · rename_i q
    have hl := lt_of q
    unfold setOb
    rw [q]
    refine ⟨?_, ?_, ?_, rfl⟩
    · unfold ownAt
      rw [set_at hl]
    · rw [set_at hl]; rfl
    · rw [set_at hl]; rfl
  · rename_i q
    have hl := lt_of q
    unfold setOb
    rw [q]
    refine ⟨?_, ?_, ?_, rfl⟩
    · unfold ownAt
      rw [set_at hl]
    · rw [set_at hl]; rfl
    · rw [set_at hl]; rfl
  · cases h
theorem setOb_own (h : ownAt s i = some o') (j : Nat) : isOwn (setOb s i o)[j]? = isOwn s[j]? := by
  by_cases e : i = j
  · subst e
    rw [(setOb_at (o := o) h).2.1, (setOb_at (o := o) h).2.2.2]
  · rw [setOb_ne e]
theorem Rel.chg {u : HO} (R : Rel K mg W0 s σ H) (h : ownAt s i = some o') (hp : σ[i]? = some (some (.ref p))) (g : ∀ W', Keep (Wf W0 s σ) H W' (upd H p u) → ObAt K mg W' (upd H p u) p o) :
    Rel K mg W0 (setOb s i o) σ (upd H p u) ∧ Mv s σ H (setOb s i o) σ (upd H p u) := by
  have hi := (setOb_at (o := o) h).2.2.2
  have hop : OwnP s σ p := ⟨i, hi, hp⟩
  have own : ∀ a, OwnP (setOb s i o) σ a → OwnP s σ a := fun a ⟨j, h1, h2⟩ => ⟨j, by rw [setOb_own h] at h1; exact h1, h2⟩
  have own' : ∀ a, OwnP s σ a → OwnP (setOb s i o) σ a := fun a ⟨j, h1, h2⟩ => ⟨j, by rw [setOb_own h]; exact h1, h2⟩
  have kp : ∀ a u', H a = some u' → ¬ OwnP s σ a → upd H p u a = some u' := fun a u' e n => by
    rw [upd_ne (fun z => n (by rw [z]; exact hop))]
    exact e
  have k : Keep (Wf W0 s σ) H (Wf W0 (setOb s i o) σ) (upd H p u) := ⟨fun a u' e n => kp a u' e fun z => n (.inr z), fun a z => .inl (z.imp id (own a))⟩
  obtain ⟨q, hq, n0, ob0⟩ := R.own i o' h
  rw [hp] at hq
  cases hq
  refine ⟨⟨by rw [setOb_len]; exact R.len, fun a ha => ?_, fun j d hj => ?_, fun j o2 hj => ?_, fun j m a h1 h2 => ?_⟩, ⟨kp, fun a z => .inl (own a z), fun a ha => ?_, fun j hj => ?_⟩⟩
  · by_cases e : a = p
    · subst e; rw [upd_same]; exact fun z => by cases z
    · rw [upd_ne e]; exact R.out a ha
  · by_cases e : i = j
    · subst e
      have := (setOb_at (o := o) h).2.1
      rw [hj] at this
      cases this
    · rw [setOb_ne e] at hj
      obtain ⟨v, h1, h2⟩ := R.val j d hj
      exact ⟨v, h1, h2.mv k⟩
  · by_cases e : i = j
    · subst e
      rw [(setOb_at h).1] at hj
      cases hj
      exact ⟨p, hp, n0, g _ k⟩
    · have e2 : ownAt s j = some o2 := by
        unfold ownAt at hj ⊢
        rw [setOb_ne e] at hj
        exact hj
      obtain ⟨a, h1, h2, h3⟩ := R.own j o2 e2
      have ne : a ≠ p := fun z => e (R.dis i j p hi (own_is e2) hp (z ▸ h1))
      exact ⟨a, h1, h2, h3.mv k fun u' e' => by rw [upd_ne ne]; exact e'⟩
  · rw [setOb_own h] at h1 h2
    exact R.dis j m a h1 h2
  · by_cases e : a = p
    · subst e; rw [upd_same]; exact fun z => by cases z
    · rw [upd_ne e]; exact ha
  · by_cases e : i = j
    · subst e
      exact ⟨(setOb_at h).2.2.1.trans hj, rfl⟩
    · rw [setOb_ne e]
      exact ⟨hj, rfl⟩
/-- the pairs of a dict -/
structure KvR (K : PySem.W.Frag) (mg : Str → Option Value) (W : Addr → Prop) (H : Hp) (kvs : List (D × D)) (kws : List (Key × V)) : Prop where
  ks : kvs.map (·.1) = kws.map fun p => keyD p.1
  vs : RepA K mg W H (kvs.map (·.2)) (kws.map (·.2))
theorem KvR.nil : KvR K mg W H [] [] := ⟨rfl, .nil⟩
theorem any_key (k : Key) : ∀ {kvs : List (D × D)} {kws : List (Key × V)}, kvs.map (·.1) = (kws.map fun p => keyD p.1) → (kvs.any fun p => keyEq p.1 (keyD k)) = kws.any fun kv => decide (kv.1 = k)
  | [], [], _ => rfl
  | p :: kvs, q :: kws, h => by
    rw [List.map_cons, List.map_cons] at h
    injection h with h1 h2
    rw [List.any_cons, List.any_cons, any_key k h2, h1, keyEq_is]
  | [], _ :: _, h => by cases h
  | _ :: _, [], h => by cases h
theorem KvR.putM (k : Key) {d : D} {v : V} (r : Rep K mg W H d v) : ∀ {kvs : List (D × D)} {kws : List (Key × V)}, KvR K mg W H kvs kws →
    KvR K mg W H (kvs.map fun p => if keyEq p.1 (keyD k) then (p.1, d) else p) (kws.map fun kv => if kv.1 = k then (kv.1, v) else kv)
  | [], [], _ => .nil
  | p :: kvs, q :: kws, h => by
    have hk := h.ks
    have hv := h.vs
    rw [List.map_cons, List.map_cons] at hk hv
    injection hk with h1 h2
    cases hv with
    | cons h3 h4 =>
      obtain ⟨ih1, ih2⟩ := KvR.putM k r ⟨h2, h4⟩
      rw [List.map_cons, List.map_cons, h1, keyEq_is]
      by_cases e : q.1 = k
      · rw [if_pos (by rw [e]; exact decide_eq_true rfl), if_pos e]
        refine ⟨?_, ?_⟩
        · rw [List.map_cons, List.map_cons, ih1]
        · rw [List.map_cons, List.map_cons]
          exact .cons r ih2
      · rw [if_neg (by rw [decide_eq_false e]; decide), if_neg e]
        refine ⟨?_, ?_⟩
        · rw [List.map_cons, List.map_cons, ih1, h1]
        · rw [List.map_cons, List.map_cons]
          exact .cons h3 ih2
  | [], _ :: _, h => by cases h.ks
  | _ :: _, [], h => by cases h.ks
theorem KvR.put (k : Key) {d : D} {v : V} {kvs : List (D × D)} {kws : List (Key × V)} (h : KvR K mg W H kvs kws) (r : Rep K mg W H d v) : KvR K mg W H (putD (keyD k) d kvs) (putK kws k v) := by
  unfold putD putK
  rw [any_key k h.ks]
  by_cases e : (kws.any fun kv => decide (kv.1 = k)) = true
  · rw [if_pos e, if_pos e]
    exact KvR.putM k r h
  · rw [if_neg e, if_neg e]
    refine ⟨?_, ?_⟩
    · rw [List.map_append, List.map_append, h.ks]; rfl
    · rw [List.map_append, List.map_append]
      exact h.vs.append (.cons r .nil)
theorem KvR.merge : ∀ {more : List (D × D)} {mws : List (Key × V)} {kvs : List (D × D)} {kws : List (Key × V)}, KvR K mg W H more mws → KvR K mg W H kvs kws → KvR K mg W H (mergeD kvs more) (mergeK kws mws)
  | [], [], _, _, _, q => q
  | p :: more, m :: mws, kvs, kws, h, q => by
    have hk := h.ks
    have hv := h.vs
    rw [List.map_cons, List.map_cons] at hk hv
    injection hk with h1 h2
    cases hv with
    | cons h3 h4 =>
      have z := KvR.merge (more := more) (mws := mws) ⟨h2, h4⟩ (q.put m.1 h3)
      rw [← h1] at z
      exact z
  | [], _ :: _, _, _, h, _ => by cases h.ks
  | _ :: _, [], _, _, h, _ => by cases h.ks
theorem KvR.len {kvs : List (D × D)} {kws : List (Key × V)} (h : KvR K mg W H kvs kws) : kvs.length = kws.length := by
  have := congrArg List.length h.ks
  rw [List.length_map, List.length_map] at this
  exact this
theorem KvR.mv {W' : Addr → Prop} {kvs : List (D × D)} {kws : List (Key × V)} (k : Keep W H W' H') (h : KvR K mg W H kvs kws) : KvR K mg W' H' kvs kws := ⟨h.ks, h.vs.mv k⟩
theorem putD_len (k d : D) (kvs : List (D × D)) : (putD k d kvs).length ≤ kvs.length + 1 := by
  unfold putD
  split
  · rw [List.length_map]; omega
  · rw [List.length_append]; exact Nat.le_refl _
theorem mergeD_len : ∀ (more kvs : List (D × D)), (mergeD kvs more).length ≤ kvs.length + more.length
  | [], kvs => Nat.le_refl _
  | p :: r, kvs => by
    have h1 := mergeD_len r (putD p.1 p.2 kvs)
    have h2 := putD_len p.1 p.2 kvs
    show (mergeD (putD p.1 p.2 kvs) r).length ≤ kvs.length + (r.length + 1)
    omega
end
section
variable {O : Ora} {K : PySem.W.Frag} {mg : Str → Option Value} {Wx : L2.WX} {W0 : Addr → Prop} {s s' s1 : Ev} {σ : L2.St} {H H' H1 : Hp}
variable {a b c : GS.CE} {es fs : CEs} {Q : VK}
theorem cs_bi {f : String} (h : tE O K mg Wx (.bi f es) σ H Q) : tCB (rBi K mg f) (tEs O K mg Wx es) σ H Q := by
  obtain ⟨W0, s, R, h⟩ := h
  refine tEs_of R (wpG_bind.mp h) (fun rvs s1 vs H1 P1 h1 => ?_) EW.id
  obtain ⟨rv, e, h⟩ := wpG_opt h1
  obtain ⟨ds, e1, e2⟩ := some_bind e
  exact ⟨_, ds, rv, wf_trk P1.rel, getAll_ok P1.rel P1.ops e1, e2, fun v H' P => h v H' (P.post P1.rel P1.mv)⟩
theorem cs_isi {t : String} (h : tE O K mg Wx (.isi a t) σ H Q) : tCB (rIsi' K mg t) (tCons (tE O K mg Wx a) (tCons (tC (.ty t)) tNil)) σ H Q := by
  obtain ⟨W0, s, R, h⟩ := h
  refine tE_of R (wpG_bind.mp h) (fun xv s1 v H1 P1 h1 => ?_) EW.id
  obtain ⟨rv, e, h⟩ := wpG_opt h1
  obtain ⟨c, e', rfl⟩ := some_map e
  obtain ⟨d, e1, e2⟩ := some_bind e'
  exact ⟨_, v, d, c, rfl, P1.op.get P1.rel e1, e2, h _ _ ⟨P1.mv, P1.rel, .bl _⟩⟩
/-! ### slices -/
def tO (O : Ora) (K : PySem.W.Frag) (mg : Str → Option Value) (Wx : L2.WX) (l : CEs) : TO := fun σ H Q => ∃ W0 s, Rel K mg W0 s σ H ∧ wpG (evs O l s) (fun rvs s' => ∃ lo, (getAll s' (rvs.map RV.opd)).bind partD = some lo ∧ ∀ H', Mv s σ H s' σ H' → Rel K mg W0 s' σ H' → Q lo H') (EW K mg Wx W0 s σ H)
theorem PO.imp {X : Cx} {e : Option Expr} {t t' : TO} (h : L2.PO X e t) (i : ∀ σ H Q, t' σ H Q → t σ H Q) : L2.PO X e t' := ⟨fun pins s σ H Q I q => h.run pins s σ H Q I (i σ H Q q)⟩
theorem cs_noPart {Q : Option Int → Hp → Prop} (h : tO O K mg Wx .nil σ H Q) : tNoPart σ H Q := by
  obtain ⟨W0, s, R, lo, e, h⟩ := h
  have e : some none = some lo := e
  cases e
  exact h H .refl R
theorem cs_part {Q : Option Int → Hp → Prop} (h : tO O K mg Wx (.cons a .nil) σ H Q) : tPart (tE O K mg Wx a) σ H Q := by
  obtain ⟨W0, s, R, h⟩ := h
  have h : wpG ((ev O a s).bind fun x s => Rs.ok [x] s) _ _ := h
  refine tE_of R (wpG_bind.mp h) (fun xv s1 v H1 P1 h1 => ?_) EW.id
  obtain ⟨lo, e, q⟩ := h1
  obtain ⟨ds, e1, e2⟩ := some_bind e
  obtain ⟨w, e3, rd⟩ := (getAll_ok P1.rel (.cons P1.op .nil) e1 : RepBs K mg _ _ ds [v]) |> fun (r : RepBs K mg _ _ ds [v]) => (show ∃ d, ds = [d] ∧ RepB K mg (Wf W0 s1 σ) H1 d v by
    cases r with
    | cons h r => cases r; exact ⟨_, rfl, h⟩)
  subst e3
  unfold partD at e2
  split at e2
  · rename_i z; cases z
  · rename_i i z
    cases z
    cases e2
    cases rd.int
    exact ⟨i, rfl, q _ P1.mv P1.rel⟩
  · cases e2
theorem cs_slc {l h' : CEs} (h : tE O K mg Wx (.slc a l h') σ H Q) : tSl (rSlc K mg) (tE O K mg Wx a) (tO O K mg Wx l) (tO O K mg Wx h') σ H Q := by
  obtain ⟨W0, s, R, h⟩ := h
  refine tE_of R (wpG_bind.mp h) (fun xv s1 v H1 P1 h1 => ?_) EW.id
  refine ⟨W0, s1, P1.rel, (wpG_bind.mp h1).mono (fun rvs s2 h2 => ?_) fun x s' e => xpre P1.mv EW.id x s' e⟩
  split at h2
  · rename_i lo e1
    refine ⟨lo, e1, fun H2 m2 R2 => ?_⟩
    refine ⟨W0, s2, R2, (wpG_bind.mp h2).mono (fun rvs s3 h3 => ?_) fun x s' e => xpre (P1.mv.trans m2) EW.id x s' e⟩
    split at h3
    · rename_i d hi e2 e3
      obtain ⟨rv, e, h⟩ := wpG_opt h3
      refine ⟨hi, e3, fun H3 m3 R3 => ?_⟩
      exact ⟨_, d, rv, wf_trk R3, ((P1.op.mv m2).mv m3).get R3 e2, e, fun v' H' P => h v' H' (P.post R3 ((P1.mv.trans m2).trans m3))⟩
    · exact h3.elim
  · exact h2.elim
/-! ### methods -/
theorem ty_mt {W : Addr → Prop} {m : String} {x : V} {d : D} (r : RepB K mg W H d x) (e : mtOf m d = true) : tyV K (mtT m) x H := by
  cases d with
  | str z =>
    obtain ⟨rfl, _, _⟩ := r.str
    have ne : (m != "get") = true := e
    show mtT m = "str"
    unfold mtT
    rw [if_neg (by simpa using ne)]
  | dict kvs =>
    obtain ⟨eq, nf⟩ := Bool.and_eq_true_iff.mp (show (m == "get" && !isFnB kvs) = true from e)
    obtain ⟨a, kws, rfl, at', _⟩ := r.dic (by simpa using nf)
    refine .inr (.inr (.inl ⟨?_, .inl ⟨kws, at'⟩⟩))
    unfold mtT
    rw [if_pos eq]
  | _ => cases e
theorem cs_meth {m : String} (h : tE O K mg Wx (.meth m a es) σ H Q) : tBM K (mtT m) (rMt K mg m) (tE O K mg Wx a) (tEs O K mg Wx es) σ H Q := by
  obtain ⟨W0, s, R, h⟩ := h
  refine tE_of R (wpG_bind.mp h) (fun xv s1 v H1 P1 h1 => ?_) EW.id
  split at h1
  · exact h1.elim
  · rename_i ht
    have ht : (xv.opd.get s1).map (mtOf m) = some true := by simpa using ht
    obtain ⟨d0, e0, t0⟩ := some_map ht
    refine ⟨ty_mt (P1.op.get P1.rel e0) t0, tEs_of P1.rel (wpG_bind.mp h1) (fun rvs s2 vs H2 P2 h2 => ?_) (xpre P1.mv EW.id)⟩
    have op := P1.op.mv P2.mv
    have m2 := P1.mv.trans P2.mv
    by_cases hm : (m == "get") = true
    · rw [if_pos hm] at h2
      obtain ⟨ds, s3, e, h3⟩ := wpG_frzL (wpG_bind.mp h2)
      obtain ⟨R3, m3, r3⟩ := frzL_ok P2.rel P2.ops e
      split at h3
      · rename_i d e1
        obtain ⟨rv, e2, h4⟩ := wpG_opt h3
        exact ⟨_, d, ds, rv, (op.mv m3).get R3 e1, r3.bs, fun _ => r3, e2, fun v' H' P => h4 v' H' (P.post R3 (m2.trans m3))⟩
      · exact h3.elim
    · rw [if_neg hm] at h2
      obtain ⟨ds, e, h3⟩ := wpG_opt (wpG_bind.mp h2)
      split at h3
      · rename_i d e1
        obtain ⟨rv, e2, h4⟩ := wpG_opt h3
        exact ⟨_, d, ds, rv, op.get P2.rel e1, getAll_ok P2.rel P2.ops e, fun z => absurd (by rw [z]; rfl) hm, e2, fun v' H' P => h4 v' H' (P.post P2.rel m2)⟩
      · exact h3.elim
/-! ### methods that change a list -/
def rMu (K : PySem.W.Frag) (mg : Str → Option Value) (m : String) : V → List V → Hp → VK → Prop := fun x vs H Q => ∃ (W : Addr → Prop) (p : Addr) (xs : List D) (ws : List V) (ds : List D) (d : D) (o' : Ob), x = .ref p ∧ H p = some (.lst ws) ∧ RepA K mg W H xs ws ∧ xs.length ≤ sizeLine ∧ RepA K mg W H ds vs ∧ mutD m (.lst xs) ds = some (d, o') ∧
  ∀ v u, Rep K mg W H d v → (∀ W' H', Keep W H W' H' → H' p = some u → ObAt K mg W' H' p o') → Q v (upd H p u)
theorem get_last {xs : List D} {ws : List V} {W : Addr → Prop} {d : D} (r : RepA K mg W H xs ws) (h : xs[xs.length - 1]? = some d) : ∃ v, ws[ws.length - 1]? = some v ∧ Rep K mg W H d v := by
  rw [← r.len]
  exact r.get h
theorem mu_any {X : Cx} (m : String) : MtR X ("list." ++ m) (rMu X.K X.mg m) := by
  intro pins s σ H x vs v us Q I rx r h
  obtain ⟨W, p, xs, ws, ds, d, o', rfl, hp, rx', hl, rd, e, q⟩ := h
  unfold mutD at e
  split at e
  · rename_i ys y eo
    cases eo
    split at e
    · rename_i hz
      cases e
      cases rd with
      | cons r1 rd =>
        cases rd
        refine mt_append pins s σ H _ _ v us Q I rx r ⟨p, ws, _, rfl, rfl, hp, by rw [← rx'.len]; exact hz, q _ _ .non fun W' H' k e => .lst e ((rx'.append (.cons r1 .nil)).mv k) ?_⟩
        rw [List.length_append, List.length_singleton]
        exact hz
    · cases e
  · rename_i ys eo
    cases eo
    obtain ⟨y, e1, e2⟩ := some_map e
    cases e2
    cases rd
    obtain ⟨w, e3, r3⟩ := get_last rx' e1
    refine mt_pop pins s σ H _ _ v us Q I rx r ⟨p, ws, w, rfl, rfl, hp, e3, q _ _ r3 fun W' H' k e => .lst e (rx'.dropLast.mv k) ?_⟩
    rw [List.length_dropLast]
    omega
  · rename_i eo
    cases eo
  · cases e
theorem isLst_of {i : Nat} (h : (!isLst (ownAt s i)) = true → False) : ∃ xs, ownAt s i = some (.lst xs) := by
  cases e : ownAt s i with
  | none => rw [e] at h; exact (h rfl).elim
  | some o =>
    cases o with
    | lst xs => exact ⟨xs, rfl⟩
    | dic kvs => rw [e] at h; exact (h rfl).elim
theorem cs_mut {m : String} {i : Nat} (h : tE O K mg Wx (.mut m i es) σ H Q) : tBM K "list" (rMu K mg m) (tVar i) (tEs O K mg Wx es) σ H Q := by
  obtain ⟨W0, s, R, h⟩ := h
  have h : wpG (if !isLst (ownAt s i) then Rs.stuck else (evs O es s).bind fun os s => (frzL os s).bind fun ds s => match ownAt s i with
    | some (.lst xs) => match mutD m (.lst xs) ds with
      | some (d, o') => Rs.ok (RV.d d) (setOb s i o')
      | none => .stuck
    | _ => .stuck) _ _ := h
  split at h
  · exact h.elim
  · rename_i hi
    obtain ⟨xs0, e0⟩ := isLst_of hi
    obtain ⟨p, hp, n0, ob⟩ := R.own i _ e0
    refine ⟨_, hp, ?_, ?_⟩
    · cases ob with
      | lst h1 _ _ => exact .inl ⟨rfl, _, .of h1⟩
    · refine tEs_of R (wpG_bind.mp h) (fun rvs s1 vs H1 P1 h1 => ?_) EW.id
      obtain ⟨ds, s2, e, h2⟩ := wpG_frzL (wpG_bind.mp h1)
      obtain ⟨R2, m2, r2⟩ := frzL_ok P1.rel P1.ops e
      split at h2
      · rename_i xs e1
        split at h2
        · rename_i d o' e2
          obtain ⟨p', hp', n1, ob1⟩ := R2.own i _ e1
          rw [hp] at hp'
          cases hp'
          cases ob1 with
          | lst g1 g2 g3 =>
            refine ⟨_, p, _, _, ds, d, o', rfl, g1, g2, g3, r2, e2, fun v u rv g => ?_⟩
            obtain ⟨R3, m3⟩ := R2.chg (u := u) (o := o') e1 hp fun W' k => g W' _ k upd_same
            have m : Mv s σ H s2 σ H1 := P1.mv.trans m2
            exact h2 v _ ⟨m.trans m3, R3, rv.mv m3.kp⟩
        · exact h2.elim
      · exact h2.elim
theorem cs_ext {i : Nat} (h : tE O K mg Wx (.ext i a) σ H Q) : tBM K "list" rExtend (tVar i) (tCons (tE O K mg Wx a) tNil) σ H Q := by
  obtain ⟨W0, s, R, h⟩ := h
  have h : wpG (if !isLst (ownAt s i) then Rs.stuck else (ev O a s).bind fun x s => match x, ownAt s i with
    | .own (.lst ys), some (.lst xs) => if xs.length + ys.length ≤ sizeLine then Rs.ok (RV.d .none) (setOb s i (.lst (xs ++ ys))) else .stuck
    | _, _ => .stuck) _ _ := h
  split at h
  · exact h.elim
  · rename_i hi
    obtain ⟨xs0, e0⟩ := isLst_of hi
    obtain ⟨p, hp, n0, ob⟩ := R.own i _ e0
    refine ⟨_, hp, ?_, ?_⟩
    · cases ob with
      | lst h1 _ _ => exact .inl ⟨rfl, _, .of h1⟩
    · refine tE_of R (wpG_bind.mp h) (fun xv s1 v H1 P1 h1 => ?_) EW.id
      split at h1
      · rename_i ys xs e1
        split at h1
        · rename_i fit
          obtain ⟨q, rfl, fq, n1, n2, R1, new⟩ := P1.rep
          obtain ⟨p', hp', n3, old⟩ := R1.own i _ e1
          rw [hp] at hp'
          cases hp'
          have k : Keep (Wf (plus W0 q) s1 σ) H1 (Wf W0 s1 σ) H1 := kp_less
          cases new with
          | lst g1 g2 g3 =>
            cases old with
            | lst o1 o2 o3 =>
              have both := o2.append g2
              obtain ⟨R3, m3⟩ := R1.less.chg (u := .lst _) (o := .lst (xs ++ ys)) e1 hp fun W' kk => .lst upd_same ((both.mv k).mv kk) (by rw [List.length_append]; exact fit)
              exact ⟨p, q, _, _, rfl, rfl, o1, g1, by rw [← o2.len, ← g2.len]; exact fit, h1 _ _ ⟨P1.mv.trans m3, R3, .non⟩⟩
        · exact h1.elim
      · exact h1.elim
theorem cs_rep (h : tE O K mg Wx (.rep a b) σ H Q) : tOp rRep (tE O K mg Wx a) (tE O K mg Wx b) σ H Q := by
  obtain ⟨W0, s, R, h⟩ := h
  refine tE_of R (wpG_bind.mp h) (fun xv s1 v H1 P1 h1 => ?_) EW.id
  split at h1
  · rename_i xs
    obtain ⟨p, rfl, fp, n0, n1, R1, new⟩ := P1.rep
    refine tE_of R1 (wpG_bind.mp h1) (fun yv s2 w H2 P2 h2 => ?_) (fun x s' q c d H' P => q c d H' ⟨P1.mv.trans P.mv, P.rel.less, P.xn⟩)
    split at h2
    · rename_i k e1
      split at h2
      · rename_i hc
        simp only [Bool.and_eq_true, decide_eq_true_eq] at hc
        cases (P2.op.get P2.rel e1).int
        cases new with
        | lst g1 g2 g3 =>
          have at2 := P2.mv.keep p _ g1 n1
          have items := (g2.mv P2.mv.kp).mv (kp_less (W0 := W0) (p := p) (s := s2) (σ := σ) (H := H2))
          refine ⟨p, k, _, rfl, rfl, at2, hc.1.1, hc.1.2, by rw [← g2.len]; exact hc.2, fun l hl => h2 _ _ ((PostV.newL hl (items.flat _) ?_).post P2.rel.less (P1.mv.trans P2.mv))⟩
          rw [PyProof.Rows.lm_len_rep_flat, Nat.mul_comm]
          exact hc.2
      · exact h2.elim
    · exact h2.elim
  · exact h1.elim
/-! ### dict displays -/
def kvOf : D → V
  | .int i => .int i
  | .str x => .str x
  | _ => .non
def trsOf (O : Ora) (K : PySem.W.Frag) (mg : Str → Option Value) (Wx : L2.WX) : List D → CEs → List (TE × TE)
  | k :: ks, .cons e r => (tC (kvOf k), tE O K mg Wx e) :: trsOf O K mg Wx ks r
  | _, _ => []
theorem cs_dnew (h : tE O K mg Wx (.dic [] .nil) σ H Q) : tDNewK σ H Q := by
  obtain ⟨W0, s, R, h⟩ := h
  intro p hp
  have P : PostV K mg (Wf W0 s σ) H (.own (.dic [])) (.ref p) (upd H p (.dK [])) := ⟨grow_upd hp, p, rfl, hp, .dic upd_same rfl .nil (Nat.zero_le _)⟩
  have h : wpG (if ([] : List D).all keyOk && decide (([] : List D).length = ([] : List D).length) && decide (([] : List D).length ≤ 15) then Rs.ok (RV.own (.dic [])) s else .stuck) _ _ := h
  exact h _ _ (P.post R .refl)
theorem kvOf_key {k : D} (h : keyOk k = true) : ∃ j : Key, k = keyD j ∧ kvOf k = kV j := by
  obtain ⟨j, rfl⟩ := keyOk_of h
  refine ⟨j, rfl, ?_⟩
  cases j <;> rfl
def lenE : CEs → Nat
  | .nil => 0
  | .cons _ r => lenE r + 1
theorem cs_pairs : ∀ {ks : List D} {vs : CEs} {W0 : Addr → Prop} {s : Ev} {H : Hp} {P : List RV → Ev → Prop} {E : Xn → Ev → Prop} {Q : List (V × V) → Hp → Prop}, lenE vs = ks.length → Rel K mg W0 s σ H → wpG (evs O vs s) P E →
    (∀ rvs s' ws H', PostL K mg W0 s σ H rvs s' ws H' → P rvs s' → Q ((ks.map kvOf).zip ws) H') → (∀ x s', E x s' → ∀ c d H', PostX K mg W0 s σ H x s' c d H' → Wx c d σ H') → tPairs (trsOf O K mg Wx ks vs) σ H Q
  | [], .nil, W0, s, H, P, E, Q, l, R, h, p, x => p [] s [] H ⟨.refl, R, .nil⟩ h
  | [], .cons e r, W0, s, H, P, E, Q, l, R, h, p, x => by cases l
  | k :: ks, .nil, W0, s, H, P, E, Q, l, R, h, p, x => by cases l
  | k :: ks, .cons e r, W0, s, H, P, E, Q, l, R, h, p, x => by
    have h : wpG ((ev O e s).bind fun x s => (evs O r s).bind fun vs s => .ok (x :: vs) s) _ _ := h
    refine tE_of R (wpG_bind.mp h) (fun xv s1 v H1 P1 h1 => ?_) x
    refine cs_pairs (P := fun rvs s' => P (xv :: rvs) s') (Nat.succ.inj l) P1.rel (wpG_bind.mp h1) (fun rvs s2 ws H2 P2 q => ?_) (xpre P1.mv x)
    exact p (xv :: rvs) s2 (v :: ws) H2 ⟨P1.mv.trans P2.mv, P2.rel, .cons (P1.op.mv P2.mv) P2.ops⟩ q
theorem kv_zip {W : Addr → Prop} {H : Hp} : ∀ {ks ds : List D} {ws : List V}, ks.all keyOk = true → ks.length = ds.length → RepA K mg W H ds ws → ∃ kws : List (Key × V), (ks.map kvOf).zip ws = kws.map (fun kv => (kV kv.1, kv.2)) ∧ KvR K mg W H (ks.zip ds) kws ∧ kws.length = ks.length
  | [], [], _, _, _, r => by cases r; exact ⟨[], rfl, .nil, rfl⟩
  | k :: ks, d :: ds, _, h, l, .cons r1 r => by
    rw [List.all_cons, Bool.and_eq_true] at h
    obtain ⟨kws, e, q, hl⟩ := kv_zip h.2 (Nat.succ.inj l) r
    obtain ⟨j, rfl, e2⟩ := kvOf_key h.1
    rename_i v vs
    refine ⟨(j, v) :: kws, ?_, ⟨?_, ?_⟩, by rw [List.length_cons, List.length_cons, hl]⟩
    · rw [List.map_cons, List.zip_cons_cons, List.map_cons, e, e2]
    · rw [List.zip_cons_cons, List.map_cons, List.map_cons, q.ks]
    · rw [List.zip_cons_cons, List.map_cons, List.map_cons]
      exact .cons r1 q.vs
  | [], _ :: _, _, _, l, _ => by cases l
  | _ :: _, [], _, _, l, _ => by cases l
theorem cs_dic {ks : List D} {vs : CEs} (hl : lenE vs = ks.length) (h : tE O K mg Wx (.dic ks vs) σ H Q) : tDisp (trsOf O K mg Wx ks vs) σ H Q := by
  obtain ⟨W0, s, R, h⟩ := h
  intro p hp
  have g := grow_upd (o := .dK []) hp
  have n0 : ¬ W0 p := fun z => R.out p z hp
  have n1 : ¬ OwnP s σ p := fun z => (R.ownTrk z).1 hp
  have gm : Mv s σ H s σ (upd H p (.dK [])) := Mv.grow g
  have R1 : Rel K mg (plus W0 p) s σ (upd H p (.dK [])) := R.grow g (fun a h => h.elim (fun z => gm.trk a (R.out a z)) fun z => by rw [z, upd_same]; exact fun z => by cases z) (fun a h => h.elim .inl fun z => .inr (z ▸ hp))
  refine cs_pairs hl R1 (wpG_bind.mp h) (fun rvs s1 ws H1 P1 h1 => ?_) (fun x s' e c d H' P => e c d H' ⟨gm.trans P.mv, P.rel.less, P.xn⟩)
  obtain ⟨ds, s2, e, h2⟩ := wpG_frzL (wpG_bind.mp h1)
  obtain ⟨R2, m2, r2⟩ := frzL_ok P1.rel P1.ops e
  split at h2
  · rename_i hc
    simp only [Bool.and_eq_true, decide_eq_true_eq] at hc
    obtain ⟨kws, e1, kv, hl2⟩ := kv_zip hc.1.1 hc.1.2 r2
    have m : Mv s σ (upd H p (.dK [])) s2 σ H1 := P1.mv.trans m2
    have hp1 : H1 p = some (.dK []) := m.keep p _ upd_same n1
    have np : ¬ OwnP s2 σ p := fun z => (R2.ownTrk z).2 (.inr rfl)
    refine ⟨hp1, kws, e1, by rw [hl2]; exact hc.2, ?_⟩
    -- the finished dict
    have kp : ∀ a u, H1 a = some u → ¬ Wf (plus W0 p) s2 σ a → upd H1 p (.dK (mergeK [] kws)) a = some u := fun a u e n => by
      rw [upd_ne (fun z => n (.inl (.inr z)))]
      exact e
    have kk : Keep (Wf (plus W0 p) s2 σ) H1 (Wf (plus W0 p) s2 σ) (upd H1 p (.dK (mergeK [] kws))) := ⟨kp, fun a h => .inl h⟩
    have mm : Mv s σ H s2 σ (upd H1 p (.dK (mergeK [] kws))) := by
      have m' := gm.trans m
      refine ⟨fun a u e n => ?_, m'.own, fun a h => ?_, m'.io⟩
      · have ne : a ≠ p := fun z => by rw [z, hp] at e; cases e
        rw [upd_ne ne]
        exact m'.keep a u e n
      · by_cases z : a = p
        · rw [z, upd_same]; exact fun z => by cases z
        · rw [upd_ne z]; exact m'.trk a h
    have R3 : Rel K mg (plus W0 p) s2 σ (upd H1 p (.dK (mergeK [] kws))) := by
      refine ⟨R2.len, fun a h => ?_, fun i d h => ?_, fun i o h => ?_, R2.dis⟩
      · by_cases z : a = p
        · rw [z, upd_same]; exact fun z => by cases z
        · rw [upd_ne z]; exact R2.out a h
      · obtain ⟨v, h1, h2⟩ := R2.val i d h
        exact ⟨v, h1, h2.mv kk⟩
      · obtain ⟨a, h1, h2, h3⟩ := R2.own i o h
        refine ⟨a, h1, h2, h3.mv kk fun u e => ?_⟩
        rw [upd_ne (fun z => h2 (.inr z))]
        exact e
    have kvm := (KvR.merge kv .nil).mv kk
    have lm := mergeD_len (ks.zip ds) []
    have lz : (ks.zip ds).length ≤ 15 := by rw [List.length_zip]; omega
    refine h2 _ _ ⟨mm, p, rfl, hp, n0, np, R3, .dic upd_same kvm.ks kvm.vs ?_⟩
    rw [sizeLine_eq]
    rw [List.length_nil] at lm
    omega
  · exact h2.elim
end
end GS

/-! GS10: stores to slots, targets, what a loop walks. -/
namespace GS
open PySem PySem.Spec PyProof.Rows L2

section
variable {K : PySem.W.Frag} {mg : Str → Option Value} {W0 W : Addr → Prop} {s s' s1 s2 : Ev} {σ σ' : L2.St} {H H' H1 H2 : Hp} {i : Nat} {p : Addr} {o o' : Ob} {v : V}
theorem sset_ne {x : Option V} {j : Nat} (h : i ≠ j) : (σ.set i x)[j]? = σ[j]? := List.getElem?_set_ne h
theorem sset_at {x : Option V} (h : i < σ.length) : (σ.set i x)[i]? = some x := List.getElem?_set_self h
theorem notIo {x : Option Sl} (h : isIo x = false) : ∀ o, x ≠ some (.io o) := fun o e => by rw [e] at h; cases h
/-- a value goes to a slot -/
theorem Rel.putD {d : D} (R : Rel K mg W0 s σ H) (hl : i < s.length) (hio : isIo s[i]? = false) (r : Rep K mg (Wf W0 s σ) H d v) : Rel K mg W0 (s.set i (.val d)) (σ.set i (some v)) H ∧ Mv s σ H (s.set i (.val d)) (σ.set i (some v)) H := by
  have hl2 : i < σ.length := R.len ▸ hl
  have less : ∀ a, OwnP (s.set i (.val d)) (σ.set i (some v)) a → OwnP s σ a := fun a ⟨j, h1, h2⟩ => by
    by_cases e : i = j
    · subst e; rw [set_at hl] at h1; cases h1
    · rw [set_ne e] at h1; rw [sset_ne e] at h2; exact ⟨j, h1, h2⟩
  have k : Keep (Wf W0 s σ) H (Wf W0 (s.set i (.val d)) (σ.set i (some v))) H := ⟨fun a u h _ => h, fun a z => .inl (z.imp id (less a))⟩
  refine ⟨⟨by rw [List.length_set, List.length_set]; exact R.len, R.out, fun j e hj => ?_, fun j q hj => ?_, fun j m a h1 h2 h3 h4 => ?_⟩, ⟨fun _ _ h _ => h, fun a z => .inl (less a z), fun _ h => h, fun j hj => ?_⟩⟩
  · by_cases q : i = j
    · subst q
      rw [set_at hl] at hj
      cases hj
      exact ⟨v, sset_at hl2, r.mv k⟩
    · rw [set_ne q] at hj
      obtain ⟨w, h1, h2⟩ := R.val j e hj
      exact ⟨w, by rw [sset_ne q]; exact h1, h2.mv k⟩
  · by_cases e : i = j
    · subst e
      unfold ownAt at hj
      rw [set_at hl] at hj
      cases hj
    · unfold ownAt at hj
      rw [set_ne e] at hj
      obtain ⟨a, h1, h2, h3⟩ := R.own j q hj
      exact ⟨a, by rw [sset_ne e]; exact h1, h2, h3.mv k fun _ h => h⟩
  · by_cases e : i = j
    · subst e; rw [set_at hl] at h1; cases h1
    · by_cases e2 : i = m
      · subst e2; rw [set_at hl] at h2; cases h2
      · rw [set_ne e] at h1; rw [set_ne e2] at h2; rw [sset_ne e] at h3; rw [sset_ne e2] at h4
        exact R.dis j m a h1 h2 h3 h4
  · by_cases e : i = j
    · subst e; rw [hio] at hj; cases hj
    · rw [set_ne e, sset_ne e]; exact ⟨hj, rfl⟩
/-- a new object goes to a slot -/
theorem Rel.putO (R : Rel K mg (plus W0 p) s σ H) (hl : i < s.length) (hio : isIo s[i]? = false) (n0 : ¬ W0 p) (n1 : ¬ OwnP s σ p) (ob : ObAt K mg (Wf (plus W0 p) s σ) H p o) :
    Rel K mg W0 (s.set i (.own o)) (σ.set i (some (.ref p))) H ∧ ∀ a, OwnP (s.set i (.own o)) (σ.set i (some (.ref p))) a → OwnP s σ a ∨ a = p := by
  have hl2 : i < σ.length := R.len ▸ hl
  have less : ∀ a, OwnP (s.set i (.own o)) (σ.set i (some (.ref p))) a → OwnP s σ a ∨ a = p := fun a ⟨j, h1, h2⟩ => by
    by_cases e : i = j
    · subst e; rw [sset_at hl2] at h2; cases h2; exact .inr rfl
    · rw [set_ne e] at h1; rw [sset_ne e] at h2; exact .inl ⟨j, h1, h2⟩
  have k : Keep (Wf (plus W0 p) s σ) H (Wf W0 (s.set i (.own o)) (σ.set i (some (.ref p)))) H := ⟨fun a u h _ => h, fun a z => .inl (z.elim (fun z => .inl (.inl z)) fun z => (less a z).elim .inr fun z => .inl (.inr z))⟩
  refine ⟨⟨by rw [List.length_set, List.length_set]; exact R.len, fun a h => R.out a (.inl h), fun j e hj => ?_, fun j q hj => ?_, fun j m a h1 h2 h3 h4 => ?_⟩, less⟩
  · by_cases q : i = j
    · subst q
      rw [set_at hl] at hj
      cases hj
    · rw [set_ne q] at hj
      obtain ⟨w, h1, h2⟩ := R.val j e hj
      exact ⟨w, by rw [sset_ne q]; exact h1, h2.mv k⟩
  · by_cases e : i = j
    · subst e
      unfold ownAt at hj
      rw [set_at hl] at hj
      cases hj
      exact ⟨p, sset_at hl2, n0, ob.mv k fun _ h => h⟩
    · unfold ownAt at hj
      rw [set_ne e] at hj
      obtain ⟨a, h1, h2, h3⟩ := R.own j q hj
      exact ⟨a, by rw [sset_ne e]; exact h1, fun z => h2 (.inl z), h3.mv k fun _ h => h⟩
  · have g : ∀ n : Nat, isOwn (s.set i (.own o))[n]? = true → (σ.set i (some (.ref p)))[n]? = some (some (.ref a)) → (i = n ∧ a = p) ∨ (isOwn s[n]? = true ∧ σ[n]? = some (some (.ref a)) ∧ i ≠ n) := fun n hn hv => by
      by_cases e : i = n
      · subst e; rw [sset_at hl2] at hv; cases hv; exact .inl ⟨rfl, rfl⟩
      · rw [set_ne e] at hn; rw [sset_ne e] at hv; exact .inr ⟨hn, hv, e⟩
    rcases g j h1 h3 with ⟨e1, e2⟩ | ⟨q1, q2, q3⟩
    · rcases g m h2 h4 with ⟨e3, e4⟩ | ⟨q4, q5, q6⟩
      · rw [← e1, ← e3]
      · exact absurd ⟨m, q4, e2 ▸ q5⟩ n1
    · rcases g m h2 h4 with ⟨e3, e4⟩ | ⟨q4, q5, q6⟩
      · exact absurd ⟨j, q1, e4 ▸ q2⟩ n1
      · exact R.dis j m a q1 q4 q2 q5
theorem putS_ok {x : Sl} (e : putS i x s = .ok () s') : i < s.length ∧ isIo s[i]? = false ∧ s' = s.set i x := by
  unfold putS at e
  split at e
  · rename_i h
    simp only [Bool.and_eq_true, decide_eq_true_eq, Bool.not_eq_true'] at h
    cases e
    exact ⟨h.1, h.2, rfl⟩
  · cases e
theorem wpG_putS {x : Sl} {P : Unit → Ev → Prop} {E : Xn → Ev → Prop} (h : wpG (putS i x s) P E) : putS i x s = .ok () (s.set i x) ∧ P () (s.set i x) := by
  unfold putS at h ⊢
  split at h
  · rename_i hc
    exact ⟨by rw [if_pos hc], h⟩
  · exact h.elim
theorem putV_ok {rv : RV} (P : PostE K mg W0 s σ H rv s1 v H1) (e : putV i rv s1 = .ok () s2) : Mv s σ H s2 (σ.set i (some v)) H1 ∧ Rel K mg W0 s2 (σ.set i (some v)) H1 := by
  have val : ∀ {rv : RV}, PostE K mg W0 s σ H rv s1 v H1 → ((frz rv s1).bind fun d s => putS i (.val d) s) = .ok () s2 → Mv s σ H s2 (σ.set i (some v)) H1 ∧ Rel K mg W0 s2 (σ.set i (some v)) H1 := fun {rv} P e => by
    cases q : frz rv s1 with
    | er x s3 => rw [q] at e; cases e
    | stuck => rw [q] at e; cases e
    | ok d s3 =>
      rw [q] at e
      have e : putS i (.val d) s3 = .ok () s2 := e
      obtain ⟨R1, m1, r⟩ := frz_ok P.rel P.op q
      obtain ⟨h1, h2, rfl⟩ := putS_ok e
      obtain ⟨R2, m2⟩ := R1.putD h1 h2 r
      exact ⟨(P.mv.trans m1).trans m2, R2⟩
  cases rv with
  | own ob =>
    have e : putS i (.own ob) s1 = .ok () s2 := e
    obtain ⟨h1, h2, rfl⟩ := putS_ok e
    obtain ⟨p, rfl, np, n0, n1, R, hob⟩ := P.rep
    obtain ⟨R2, less⟩ := R.putO h1 h2 n0 n1 hob
    refine ⟨⟨P.mv.keep, fun a z => ?_, P.mv.trk, fun j hj => ?_⟩, R2⟩
    · rcases less a z with z | z
      · exact P.mv.own a z
      · exact .inr (z ▸ np)
    · obtain ⟨h3, _⟩ := P.mv.io j hj
      have ne : i ≠ j := fun z => by rw [z] at h2; rw [h2] at h3; cases h3
      exact ⟨by rw [set_ne ne]; exact h3, sset_ne ne⟩
  | d x => exact val P e
  | sl j => exact val P e
theorem wpG_putV {rv : RV} {P : Unit → Ev → Prop} {E : Xn → Ev → Prop} (h : wpG (putV i rv s) P E) : ∃ s', putV i rv s = .ok () s' ∧ P () s' := by
  have val : ∀ {rv : RV}, wpG ((frz rv s).bind fun d s => putS i (.val d) s) P E → ∃ s', ((frz rv s).bind fun d s => putS i (.val d) s) = .ok () s' ∧ P () s' := fun {rv} h => by
    obtain ⟨d, s1, e, h1⟩ := wpG_frz (wpG_bind.mp h)
    obtain ⟨e2, h2⟩ := wpG_putS h1
    exact ⟨_, by rw [e]; exact e2, h2⟩
  cases rv with
  | own ob =>
    have h : wpG (putS i (.own ob) s) P E := h
    obtain ⟨e, h1⟩ := wpG_putS h
    exact ⟨_, e, h1⟩
  | d x => exact val (rv := .d x) h
  | sl j => exact val (rv := .sl j) h
/-! ### targets -/
def TgO (tg : CT) (σ σ' : L2.St) : Prop := ∀ ow : List Nat, tgIn ow tg = true → wipe σ' ow = wipe σ ow
theorem wipe_set {ow : List Nat} {x : Option V} (h : i ∈ ow) : wipe (σ.set i x) ow = wipe σ ow := by
  induction ow with
  | nil => cases h
  | cons j r ih =>
    by_cases hr : i ∈ r
    · show (wipe (σ.set i x) r).set j none = (wipe σ r).set j none
      rw [ih hr]
    · have e : i = j := by
        rcases List.mem_cons.mp h with h | h
        · exact h
        · exact absurd h hr
      subst e
      have q : ∀ {r : List Nat}, i ∉ r → wipe (σ.set i x) r = (wipe σ r).set i x := fun {r} => by
        induction r with
        | nil => exact fun _ => rfl
        | cons k r ih2 =>
          intro hn
          show (wipe (σ.set i x) r).set k none = ((wipe σ r).set k none).set i x
          rw [ih2 fun z => hn (List.mem_cons_of_mem _ z), List.set_comm _ _ (fun z => hn (by rw [z]; exact List.mem_cons_self))]
      show (wipe (σ.set i x) r).set i none = (wipe σ r).set i none
      rw [q hr, List.set_set]
def tG (K : PySem.W.Frag) (mg : Str → Option Value) (tg : CT) : TG := fun v σ H Q => ∃ W0 s d, Rel K mg W0 s σ H ∧ Rep K mg (Wf W0 s σ) H d v ∧ wpG (bindT tg d s) (fun _ s' => ∀ σ', TgO tg σ σ' → Mv s σ H s' σ' H → Rel K mg W0 s' σ' H → Q σ' H) (fun _ _ => False)
def tGs (K : PySem.W.Frag) (mg : Str → Option Value) (is : List Nat) : TGs := fun vs σ H Q => ∃ W0 s ds, Rel K mg W0 s σ H ∧ RepA K mg (Wf W0 s σ) H ds vs ∧ wpG (bindAll is ds s) (fun _ s' => ∀ σ', TgO (.tup is) σ σ' → Mv s σ H s' σ' H → Rel K mg W0 s' σ' H → Q σ' H) (fun _ _ => False)
theorem tgo_nm : TgO (.nm i) σ (σ.set i (some v)) := fun ow h => wipe_set (by
  have h : ow.contains i = true := h
  simpa using h)
theorem cs_gname {Q : L2.St → Hp → Prop} (h : tG K mg (.nm i) v σ H Q) : gName i v σ H Q := by
  obtain ⟨W0, s, d, R, r, h⟩ := h
  obtain ⟨e, h1⟩ := wpG_putS (show wpG (putS i (.val d) s) _ _ from h)
  obtain ⟨h2, h3, _⟩ := putS_ok e
  obtain ⟨R2, m⟩ := R.putD h2 h3 r
  exact h1 _ tgo_nm m R2
theorem cs_gnil {vs : List V} {Q : L2.St → Hp → Prop} (h : tGs K mg [] vs σ H Q) : gNil vs σ H Q := by
  obtain ⟨W0, s, ds, R, r, h⟩ := h
  cases r with
  | nil => exact ⟨rfl, h σ (fun _ _ => rfl) .refl R⟩
  | cons _ _ => exact h.elim
theorem cs_gcons {is : List Nat} {vs : List V} {Q : L2.St → Hp → Prop} (h : tGs K mg (i :: is) vs σ H Q) : gCons (gName i) (tGs K mg is) vs σ H Q := by
  obtain ⟨W0, s, ds, R, r, h⟩ := h
  cases r with
  | nil => exact h.elim
  | @cons d v ds vs r1 r2 =>
    have h : wpG ((putS i (.val d) s).bind fun _ s => bindAll is ds s) _ _ := h
    obtain ⟨e, h1⟩ := wpG_putS (wpG_bind.mp h)
    obtain ⟨h2, h3, _⟩ := putS_ok e
    obtain ⟨R2, m⟩ := R.putD h2 h3 r1
    refine ⟨v, vs, rfl, W0, _, ds, R2, r2.mv m.kp, h1.mono (fun _ s' q σ' t m' R' => q σ' (fun ow ht => ?_) (m.trans m') R') fun _ _ z => z⟩
    have ht' : ow.contains i = true ∧ is.all ow.contains = true := by
      have : (i :: is).all ow.contains = true := ht
      rw [List.all_cons, Bool.and_eq_true] at this
      exact this
    rw [t ow ht'.2]
    exact tgo_nm ow ht'.1
theorem bindAll_len {E : Xn → Ev → Prop} {P : Unit → Ev → Prop} : ∀ {is : List Nat} {ds : List D} {s : Ev}, wpG (bindAll is ds s) P E → is.length = ds.length
  | [], [], _, _ => rfl
  | [], _ :: _, _, h => h.elim
  | _ :: _, [], _, h => h.elim
  | i :: is, d :: ds, s, h => by
    have h : wpG ((putS i (.val d) s).bind fun _ s => bindAll is ds s) P E := h
    obtain ⟨_, h1⟩ := wpG_putS (wpG_bind.mp h)
    exact congrArg Nat.succ (bindAll_len h1)
theorem cs_gtup {is : List Nat} {Q : L2.St → Hp → Prop} (h : tG K mg (.tup is) v σ H Q) : gTup K is.length (tGs K mg is) v σ H Q := by
  obtain ⟨W0, s, d, R, r, h⟩ := h
  cases d with
  | tuple ds =>
    have h : wpG (bindAll is ds s) _ _ := h
    obtain ⟨a, vs, rfl, h1, h2, h3, _⟩ := (RepB.of r).tup
    exact ⟨a, vs, rfl, h1, h2.len ▸ (bindAll_len h).symm, W0, s, ds, R, h2, h⟩
  | _ => exact h.elim
end

/-! ### what a loop walks -/
structure IterOf (K : PySem.W.Frag) (mg : Str → Option Value) (W : Addr → Prop) (J : It) (H0 : Hp) (ds : List D) : Prop where
  go : ∀ (W' : Addr → Prop) (H : Hp) i, Keep W H0 W' H → i < ds.length → J.go i H
  yld : ∀ (W' : Addr → Prop) (H : Hp) i x H', Keep W H0 W' H → i < ds.length → (∀ a, W' a → H a ≠ none) → J.yld i H x H' → (∀ a u, H a = some u → H' a = some u) ∧ ∃ d, ds[i]? = some d ∧ Rep K mg W' H' d x
  stop : ∀ (W' : Addr → Prop) (H : Hp) i, Keep W H0 W' H → ds.length ≤ i → J.stop i H
def tI (O : Ora) (K : PySem.W.Frag) (mg : Str → Option Value) (Wx : L2.WX) (it : CI) : TI := fun σ H R => ∃ W0 s, Rel K mg W0 s σ H ∧ wpG (evI O it s) (fun ds s' => ∀ J H', Mv s σ H s' σ H' → Rel K mg W0 s' σ H' → IterOf K mg (Wf W0 s' σ) J H' ds → R J H') (EW K mg Wx W0 s σ H)
theorem PI.imp {X : Cx} {tg e : Expr} {t t' : TI} (h : L2.PI X tg e t) (i : ∀ σ H Q, t' σ H Q → t σ H Q) : L2.PI X tg e t' := ⟨fun pins s σ H Q I q => h.run pins s σ H Q I (i σ H Q q)⟩
section
variable {K : PySem.W.Frag} {mg : Str → Option Value} {W W' : Addr → Prop} {H H' : Hp} {xs : List D} {vs : List V} {a : Addr}
theorem RepA.at' {i : Nat} {v : V} (r : RepA K mg W H xs vs) (h : vs[i]? = some v) : ∃ d, xs[i]? = some d ∧ Rep K mg W H d v := by
  have hl : i < xs.length := by
    rw [r.len]
    exact (List.getElem?_eq_some_iff.mp h).1
  obtain ⟨w, h1, h2⟩ := r.get (i := i) (d := xs[i]) (by simp [hl])
  rw [h] at h1
  cases h1
  exact ⟨xs[i], by simp [hl], h2⟩
theorem iter_list (h : AtL K W H a vs) (r : RepA K mg W H xs vs) : IterOf K mg W (Itl K a) H xs where
  go := fun W' H' i k hi => by
    rw [r.len] at hi
    exact ⟨vs, vs[i], (h.mv k).sq, by simp [hi]⟩
  yld := fun W' H' i x H2 k hi _ y => by
    obtain ⟨e, y⟩ := y
    subst e
    exact ⟨fun _ _ h => h, (r.mv k).at' (y vs (h.mv k).sq)⟩
  stop := fun W' H' i k hi => ⟨vs, (h.mv k).sq, by rw [← r.len]; exact hi⟩
theorem iter_tup (h : AtT K W H a vs) (r : RepA K mg W H xs vs) : IterOf K mg W (Itt K a) H xs where
  go := fun W' H' i k hi => by
    rw [r.len] at hi
    exact ⟨vs, vs[i], (h.mv k).sq, by simp [hi]⟩
  yld := fun W' H' i x H2 k hi _ y => by
    obtain ⟨e, y⟩ := y
    subst e
    exact ⟨fun _ _ h => h, (r.mv k).at' (y vs (h.mv k).sq)⟩
  stop := fun W' H' i k hi => ⟨vs, (h.mv k).sq, by rw [← r.len]; exact hi⟩
theorem iter_str {z : Str} (h : PyData.strOk z = true) : IterOf K mg W (Its z) H (z.cps.toList.map chr1) where
  go := fun W' H' i k hi => by
    have hi : i < z.cps.size := by simpa using hi
    exact hi
  yld := fun W' H' i x H2 k hi _ y => by
    obtain ⟨e, c, hc, y⟩ := y
    subst e y
    have hc' : z.cps.toList[i]? = some c := by simpa using hc
    exact ⟨fun _ _ h => h, chr1 c, by rw [List.getElem?_map, hc']; rfl, .str _ (strOk_chr h (List.mem_of_getElem? hc')) one_size⟩
  stop := fun W' H' i k hi => by
    have hi : z.cps.size ≤ i := by simpa using hi
    exact hi
theorem iter_range (lo : Int) (n : Nat) : IterOf K mg W (Itr lo n) H ((List.range n).map fun (k : Nat) => PyData.int (lo + (k : Int))) where
  go := fun W' H' i k hi => by
    have hi : i < n := by simpa using hi
    exact hi
  yld := fun W' H' i x H2 k hi _ y => by
    have hi : i < n := by simpa using hi
    obtain ⟨e, y⟩ := y
    subst e y
    exact ⟨fun _ _ h => h, _, by rw [List.getElem?_map, List.getElem?_range hi]; rfl, .int _⟩
  stop := fun W' H' i k hi => by
    have hi : n ≤ i := by simpa using hi
    exact hi
theorem iter_range0 (n : Nat) : IterOf K mg W (Itr 0 n) H ((List.range n).map fun (k : Nat) => PyData.int (k : Int)) := by
  have h := iter_range (K := K) (mg := mg) (W := W) (H := H) 0 n
  have e : (fun (k : Nat) => PyData.int (0 + (k : Int))) = fun (k : Nat) => PyData.int (k : Int) := funext fun k => by rw [Int.zero_add]
  rw [e] at h
  exact h
end
section
variable {X : Cx} {O : Ora} {Wx : L2.WX} {tg e : Expr} {a b : GS.CE}
/-- any thing that may be walked -/
theorem pi_any (hc : X.calm = true) (he : L2.PE X e (tE O X.K X.mg Wx a)) : L2.PI X tg e (tI O X.K X.mg Wx (.v a)) := by
  refine ⟨fun pins s0 σ H R I h => ?_⟩
  obtain ⟨W0, s, R0, h⟩ := h
  have h : wpG ((ev O a s).bind fun x s => (frz x s).bind fun d s => Rs.opt (itemsD d) s) _ _ := h
  refine thn (he.run pins s0 σ H (fun v H1 => ∃ d s2 ds, Rel X.K X.mg W0 s2 σ H1 ∧ Mv s σ H s2 σ H1 ∧ Rep X.K X.mg (Wf W0 s2 σ) H1 d v ∧ itemsD d = some ds ∧ ∀ J, IterOf X.K X.mg (Wf W0 s2 σ) J H1 ds → R J H1) I
    (tE_of R0 (wpG_bind.mp h) (fun xv s1 v H1 P1 h1 => ?_) EW.id)) fun v s1 ⟨x, H1, I1, r1, d, s2, ds, R2, m2, rd, e1, q⟩ => ?_
  · obtain ⟨d, s2, e1, h2⟩ := wpG_frz (wpG_bind.mp h1)
    obtain ⟨R2, m2, r2⟩ := frz_ok P1.rel P1.op e1
    obtain ⟨ds, e2, h3⟩ := wpG_opt h2
    exact ⟨d, s2, ds, R2, P1.mv.trans m2, r2, e2, fun J hJ => h3 J H1 (P1.mv.trans m2) R2 hJ⟩
  · unfold itemsD at e1
    split at e1
    · cases e1
      cases rd with
      | lst g r l =>
        cases r1
        obtain ⟨its, rv, p, hz⟩ := I1.list g.sq
        exact wpAny_pyIter_list p.isList (pi_one (tk := s1.toks) I1 _ (turn_list _ _) ⟨_, Heap.get?_push_size _ rfl, rfl, rfl⟩ (q _ (iter_list g r)))
    · cases e1
      cases rd with
      | tup g r l =>
        cases r1
        obtain ⟨its, rv, p, hz⟩ := I1.tuple g.sq
        exact wpAny_pyIter_tuple (show s1.heap.IsTuple _ its.toArray from p) (pi_one (tk := s1.toks) I1 _ (turn_tuple _ _) ⟨_, Heap.get?_push_size _ rfl, rfl, rfl⟩ (q _ (iter_tup g r)))
    · rename_i z
      cases e1
      cases rd with
      | str _ g l =>
        obtain ⟨t, rfl⟩ := r1
        have q' := q _ (iter_str g)
        cases ha : z.cps.all (· < 128)
        · exact wpAny_pyIter_wide ha (pi_one (tk := s1.toks) I1 _ (turn_str _ z t "str_iterator" (.inr rfl)) ⟨_, Heap.get?_push_size _ rfl, rfl, rfl⟩ q')
        · exact wpAny_pyIter_ascii ha (pi_one (tk := s1.toks) I1 _ (turn_str _ z t "str_ascii_iterator" (.inl rfl)) ⟨_, Heap.get?_push_size _ rfl, rfl, rfl⟩ q')
    · cases e1
theorem cs_rng1 {σ : L2.St} {H : Hp} {R : It → Hp → Prop} (h : tI O X.K X.mg Wx (.rng1 a) σ H R) : iRng1 (tCons (tE O X.K X.mg Wx a) tNil) σ H R := by
  obtain ⟨W0, s, R0, h⟩ := h
  refine tE_of R0 (wpG_bind.mp h) (fun xv s1 v H1 P1 h1 => ?_) EW.id
  split at h1
  · rename_i j e
    split at h1
    · rename_i hc
      simp only [Bool.and_eq_true, decide_eq_true_eq] at hc
      cases (P1.op.get P1.rel e).int
      exact ⟨j, rfl, hc.1, hc.2, h1 _ _ P1.mv P1.rel (iter_range0 _)⟩
    · exact h1.elim
  · exact h1.elim
theorem cs_rng2 {σ : L2.St} {H : Hp} {R : It → Hp → Prop} (h : tI O X.K X.mg Wx (.rng2 a b) σ H R) : iRng2 (tCons (tE O X.K X.mg Wx a) (tCons (tE O X.K X.mg Wx b) tNil)) σ H R := by
  obtain ⟨W0, s, R0, h⟩ := h
  refine tE_of R0 (wpG_bind.mp h) (fun xv s1 v H1 P1 h1 => tE_of P1.rel (wpG_bind.mp h1) (fun yv s2 w H2 P2 h2 => ?_) (xpre P1.mv EW.id)) EW.id
  split at h2
  · rename_i i j e1 e2
    split at h2
    · rename_i hc
      simp only [Bool.and_eq_true, decide_eq_true_eq] at hc
      cases ((P1.op.mv P2.mv).get P2.rel e1).int
      cases (P2.op.get P2.rel e2).int
      exact ⟨i, j, rfl, ⟨hc.1.1.1, hc.1.1.2, hc.1.2, hc.2⟩, h2 _ _ (P1.mv.trans P2.mv) P2.rel (iter_range _ _)⟩
    · exact h2.elim
  · exact h2.elim
end
end GS

/-! GS11: list comprehensions. -/
namespace GS
open PySem PySem.Spec PyProof.Rows L2

section
variable {K : PySem.W.Frag} {mg : Str → Option Value} {W0 W : Addr → Prop} {s s' s0 s1 s2 : Ev} {σ σ' : L2.St} {H H' H1 H2 : Hp} {i : Nat} {p : Addr} {v : V} {ow : List Nat}
theorem wipeS_len : ∀ (ow : List Nat), (wipeS s ow).length = s.length
  | [] => rfl
  | i :: r => by show ((wipeS s r).set i .emp).length = _; rw [List.length_set, wipeS_len r]
theorem wipeS_out {j : Nat} : ∀ {ow : List Nat}, j ∉ ow → (wipeS s ow)[j]? = s[j]?
  | [], _ => rfl
  | i :: r, h => by
    show ((wipeS s r).set i .emp)[j]? = _
    rw [set_ne (fun z => h (by rw [z]; exact List.mem_cons_self)), wipeS_out fun z => h (List.mem_cons_of_mem _ z)]
theorem wipeS_in {j : Nat} : ∀ {ow : List Nat}, j ∈ ow → (wipeS s ow)[j]? = some .emp ∨ (wipeS s ow)[j]? = none
  | [], h => by cases h
  | i :: r, h => by
    show ((wipeS s r).set i .emp)[j]? = _ ∨ ((wipeS s r).set i .emp)[j]? = _
    by_cases e : i = j
    · subst e
      by_cases hl : i < (wipeS s r).length
      · exact .inl (set_at hl)
      · exact .inr (List.getElem?_eq_none (by rw [List.length_set]; omega))
    · rw [set_ne e]
      rcases List.mem_cons.mp h with h | h
      · exact absurd h.symm e
      · exact wipeS_in h
theorem wipe_inn {j : Nat} {ow : List Nat} (h : j ∈ ow) : ∀ x, (wipe σ ow)[j]? ≠ some (some x) := fun x e => (wipe_some e).2 h
theorem wipe_idem : wipe (wipe σ ow) ow = wipe σ ow := by
  apply List.ext_getElem?
  intro j
  by_cases h : j ∈ ow
  · have hl1 := wipe_length (wipe σ ow) ow
    have hl2 := wipe_length σ ow
    have g : ∀ {τ : L2.St}, (wipe τ ow)[j]? = if j < τ.length then some none else none := fun {τ} => by
      split
      · rename_i hl
        have hl' : j < (wipe τ ow).length := by rw [wipe_length]; exact hl
        rw [List.getElem?_eq_getElem hl']
        congr 1
        cases e : (wipe τ ow)[j] with
        | none => rfl
        | some x => exact absurd (by rw [List.getElem?_eq_getElem hl', e]) (wipe_inn h x)
      · rename_i hl
        exact List.getElem?_eq_none (by rw [wipe_length]; omega)
    rw [g, g, wipe_length]
  · rw [wipe_out h]
theorem backS_len : ∀ (ow : List Nat), (backS s0 s ow).length = s.length
  | [] => rfl
  | i :: r => by show ((backS s0 s r).set i _).length = _; rw [List.length_set, backS_len r]
theorem backS_out {j : Nat} : ∀ {ow : List Nat}, j ∉ ow → (backS s0 s ow)[j]? = s[j]?
  | [], _ => rfl
  | i :: r, h => by
    show ((backS s0 s r).set i _)[j]? = _
    rw [set_ne (fun z => h (by rw [z]; exact List.mem_cons_self)), backS_out fun z => h (List.mem_cons_of_mem _ z)]
theorem backS_in {j : Nat} : ∀ {ow : List Nat}, j ∈ ow → j < s.length → (backS s0 s ow)[j]? = some ((s0[j]?).getD .emp)
  | [], h, _ => by cases h
  | i :: r, h, hl => by
    show ((backS s0 s r).set i _)[j]? = _
    by_cases e : i = j
    · subst e
      exact set_at (by rw [backS_len]; exact hl)
    · rw [set_ne e]
      rcases List.mem_cons.mp h with h | h
      · exact absurd h.symm e
      · exact backS_in h hl
theorem any_own (h : (ow.any fun i => isOwn s[i]?) = false) {j : Nat} (hj : j ∈ ow) : isOwn s[j]? = false := by
  have := List.any_eq_false.mp h j hj
  simpa using this
/-- the own slots are forgotten -/
theorem Rel.wipe (R : Rel K mg W0 s σ H) (h : (ow.any fun i => isOwn s[i]?) = false) : Rel K mg W0 (wipeS s ow) (L2.wipe σ ow) H ∧ Mv s σ H (wipeS s ow) (L2.wipe σ ow) H := by
  have io : ∀ {j : Nat}, isOwn (wipeS s ow)[j]? = true → j ∉ ow ∧ isOwn s[j]? = true := fun {j} hj => by
    by_cases e : j ∈ ow
    · rcases wipeS_in (s := s) e with z | z <;> (rw [z] at hj; cases hj)
    · rw [wipeS_out e] at hj; exact ⟨e, hj⟩
  have less : ∀ a, OwnP (wipeS s ow) (L2.wipe σ ow) a → OwnP s σ a := fun a ⟨j, h1, h2⟩ => by
    obtain ⟨e, h3⟩ := io h1
    rw [wipe_out e] at h2
    exact ⟨j, h3, h2⟩
  have k : Keep (Wf W0 s σ) H (Wf W0 (wipeS s ow) (L2.wipe σ ow)) H := ⟨fun a u h _ => h, fun a z => .inl (z.imp id (less a))⟩
  refine ⟨⟨by rw [wipeS_len, wipe_length]; exact R.len, R.out, fun j d hj => ?_, fun j o hj => ?_, fun j m a h1 h2 h3 h4 => ?_⟩, ⟨fun _ _ h _ => h, fun a z => .inl (less a z), fun _ h => h, fun j hj => ?_⟩⟩
  · by_cases e : j ∈ ow
    · rcases wipeS_in (s := s) e with z | z <;> (rw [z] at hj; cases hj)
    · rw [wipeS_out e] at hj
      obtain ⟨v, h1, h2⟩ := R.val j d hj
      exact ⟨v, by rw [wipe_out e]; exact h1, h2.mv k⟩
  · obtain ⟨e, h3⟩ := io (own_is hj)
    unfold ownAt at hj
    rw [wipeS_out e] at hj
    obtain ⟨a, h1, h2, h3⟩ := R.own j o hj
    exact ⟨a, by rw [wipe_out e]; exact h1, h2, h3.mv k fun _ h => h⟩
  · obtain ⟨e1, q1⟩ := io h1
    obtain ⟨e2, q2⟩ := io h2
    rw [wipe_out e1] at h3
    rw [wipe_out e2] at h4
    exact R.dis j m a q1 q2 h3 h4
  · have e : j ∉ ow := fun z => by
      have := any_own h z
      cases q : s[j]? with
      | none => rw [q] at hj; cases hj
      | some x =>
        rw [q] at hj this
        cases x with
        | io o => cases this
        | _ => cases hj
    rw [wipeS_out e, wipe_out e]
    exact ⟨hj, rfl⟩
/-- .. and stand again -/
theorem Rel.back (R0 : Rel K mg W0 s0 σ H) (h0 : (ow.any fun i => isOwn s0[i]?) = false) (h1 : (ow.any fun i => isOwn s[i]?) = false) (R : Rel K mg W s (L2.wipe σ ow) H') (m : Mv s0 σ H s (L2.wipe σ ow) H') (o2 : ∀ a, W a → W0 a ∨ H a = none) :
    Rel K mg W (backS s0 s ow) σ H' ∧ Mv s0 σ H (backS s0 s ow) σ H' := by
  have hl : s.length = s0.length := by rw [R.len, R0.len, wipe_length]
  have gin : ∀ {j : Nat}, j ∈ ow → (backS s0 s ow)[j]? = s0[j]? := fun {j} e => by
    by_cases q : j < s.length
    · rw [backS_in e q]
      rw [List.getElem?_eq_getElem (by omega)]
      rfl
    · rw [List.getElem?_eq_none (by rw [backS_len]; omega), List.getElem?_eq_none (by omega)]
  have io : ∀ {j : Nat}, isOwn (backS s0 s ow)[j]? = true → j ∉ ow ∧ isOwn s[j]? = true := fun {j} hj => by
    by_cases e : j ∈ ow
    · rw [gin e, any_own h0 e] at hj; cases hj
    · rw [backS_out e] at hj; exact ⟨e, hj⟩
  have less : ∀ a, OwnP (backS s0 s ow) σ a → OwnP s (L2.wipe σ ow) a := fun a ⟨j, h1, h2⟩ => by
    obtain ⟨e, h3⟩ := io h1
    exact ⟨j, h3, by rw [wipe_out e]; exact h2⟩
  have k : Keep (Wf W s (L2.wipe σ ow)) H' (Wf W (backS s0 s ow) σ) H' := ⟨fun a u h _ => h, fun a z => .inl (z.imp id (less a))⟩
  have k0 : Keep (Wf W0 s0 σ) H (Wf W (backS s0 s ow) σ) H' := ⟨fun a u h n => m.keep a u h fun z => n (.inr z), fun a z => z.elim (fun z => (o2 a z).imp .inl id) fun z => (m.own a (less a z)).imp .inr id⟩
  refine ⟨⟨by rw [backS_len, hl]; exact R0.len, R.out, fun j d hj => ?_, fun j o hj => ?_, fun j m a h1 h2 h3 h4 => ?_⟩, ⟨m.keep, fun a z => m.own a (less a z), m.trk, fun j hj => ?_⟩⟩
  · by_cases e : j ∈ ow
    · rw [gin e] at hj
      obtain ⟨v, h1, h2⟩ := R0.val j d hj
      exact ⟨v, h1, h2.mv k0⟩
    · rw [backS_out e] at hj
      obtain ⟨v, h1, h2⟩ := R.val j d hj
      exact ⟨v, by rw [wipe_out e] at h1; exact h1, h2.mv k⟩
  · obtain ⟨e, h3⟩ := io (own_is hj)
    unfold ownAt at hj
    rw [backS_out e] at hj
    obtain ⟨a, h1, h2, h3⟩ := R.own j o hj
    exact ⟨a, by rw [wipe_out e] at h1; exact h1, h2, h3.mv k fun _ h => h⟩
  · obtain ⟨e1, q1⟩ := io h1
    obtain ⟨e2, q2⟩ := io h2
    exact R.dis j m a q1 q2 (by rw [wipe_out e1]; exact h3) (by rw [wipe_out e2]; exact h4)
  · have e : j ∉ ow := fun z => by
      have := any_own h0 z
      cases q : s0[j]? with
      | none => rw [q] at hj; cases hj
      | some x =>
        rw [q] at hj this
        cases x with
        | io o => cases this
        | _ => cases hj
    rw [backS_out e]
    exact ⟨(m.io j hj).1, rfl⟩
/-- an object of the outer words changes -/
theorem Rel.updO {u : HO} (R : Rel K mg W s σ H) (h : W p) : Rel K mg W s σ (upd H p u) := by
  have k : Keep (Wf W s σ) H (Wf W s σ) (upd H p u) := ⟨fun a u' e n => by
    rw [upd_ne (fun z => n (.inl (by rw [z]; exact h)))]
    exact e, fun a z => .inl z⟩
  refine ⟨R.len, fun a ha => ?_, fun j d hj => ?_, fun j o hj => ?_, R.dis⟩
  · by_cases e : a = p
    · rw [e, upd_same]; exact fun z => by cases z
    · rw [upd_ne e]; exact R.out a ha
  · obtain ⟨v, h1, h2⟩ := R.val j d hj
    exact ⟨v, h1, h2.mv k⟩
  · obtain ⟨a, h1, h2, h3⟩ := R.own j o hj
    exact ⟨a, h1, h2, h3.mv k fun u' e => by
      rw [upd_ne (fun z => h2 (by rw [z]; exact h))]
      exact e⟩
theorem Mv.updN {u : HO} (m : Mv s σ H s' σ' H') (h : H p = none) : Mv s σ H s' σ' (upd H' p u) :=
  ⟨fun a u' e n => by
    rw [upd_ne (fun z => by rw [z, h] at e; cases e)]
    exact m.keep a u' e n, m.own, fun a ha => by
    by_cases e : a = p
    · rw [e, upd_same]; exact fun z => by cases z
    · rw [upd_ne e]; exact m.trk a ha, m.io⟩
theorem wpG_noX {α : Type} {r : Rs α} {P : α → Ev → Prop} {E : Xn → Ev → Prop} (h : wpG (noX r) P E) : wpG r P (fun _ _ => False) := by
  cases r with
  | ok a s => exact h
  | er x s => exact h
  | stuck => exact h
theorem wpG_wipeC {P : Unit → Ev → Prop} {E : Xn → Ev → Prop} (h : wpG (wipeC ow s) P E) : (ow.any fun i => isOwn s[i]?) = false ∧ P () (wipeS s ow) := by
  unfold wipeC at h
  split at h
  · exact h.elim
  · rename_i e
    exact ⟨by simpa using e, h⟩
theorem wiped_own : (ow.any fun i => isOwn (wipeS s ow)[i]?) = false := by
  rw [List.any_eq_false]
  intro j hj
  rcases wipeS_in (s := s) hj with z | z <;> (rw [z]; decide)
end
section
variable {O : Ora} {K : PySem.W.Frag} {mg : Str → Option Value} {Wx : L2.WX}
def noWx : L2.WX := fun _ _ _ _ => False
/-- the tests of a clause -/
def tTs (O : Ora) (K : PySem.W.Frag) (mg : Str → Option Value) (Wx : L2.WX) (ifs : CEs) : TT := fun σ H Q => ∃ W0 s, Rel K mg W0 s σ H ∧ wpG (evT O ifs s) (fun b s' => ∀ H', Mv s σ H s' σ H' → Rel K mg W0 s' σ H' → Q b H') (EW K mg Wx W0 s σ H)
variable {σ : L2.St} {H : Hp} {a : GS.CE}
theorem cs_yes {Q : Bool → Hp → Prop} (h : tTs O K mg Wx .nil σ H Q) : tYes σ H Q := by
  obtain ⟨W0, s, R, h⟩ := h
  exact h H .refl R
theorem cs_test1 {Q : Bool → Hp → Prop} (h : tTs O K mg Wx (.cons a .nil) σ H Q) : tT O K mg Wx a σ H Q := by
  obtain ⟨W0, s, R, h⟩ := h
  refine ⟨W0, s, R, ?_⟩
  have h : wpG ((ev O a s).bind fun x s => match (x.opd.get s).bind truD with
    | some true => Rs.ok true s
    | some false => .ok false s
    | none => .stuck) _ _ := h
  refine wpG_bind.mpr ((wpG_bind.mp h).mono (fun xv s1 h1 => ?_) fun _ _ h => h)
  split at h1
  · rename_i e; rw [e]; exact h1
  · rename_i e; rw [e]; exact h1
  · exact h1.elim
theorem cs_comp {ow : List Nat} {tg : CT} {it : CI} {ifs : CEs} {e : GS.CE} {Q : VK} (h : tE O K mg Wx (.comp ow tg it ifs e) σ H Q) :
    tLc (tI O K mg Wx it) (tG K mg tg) (tTs O K mg noWx ifs) (tE O K mg noWx e) ow σ H Q := by
  obtain ⟨W0, s, R, h⟩ := h
  have h : wpG ((evI O it s).bind fun xs s0 => if !tgIn ow tg then Rs.stuck else (wipeC ow s0).bind fun _ s =>
    noX ((compL ow tg (fun s => evT O ifs s) (fun s => (ev O e s).bind frz) xs [] s).bind fun acc s' => .ok (RV.own (.lst acc)) (backS s0 s' ow))) _ _ := h
  refine ⟨W0, s, R, (wpG_bind.mp h).mono (fun xs s0 h1 => ?_) fun _ _ h => h⟩
  intro J H1 m0 R0 it D hD
  split at h1
  · exact h1.elim
  · rename_i ht
    have ht : tgIn ow tg = true := by simpa using ht
    obtain ⟨h0, h2⟩ := wpG_wipeC (wpG_bind.mp h1)
    have h3 := wpG_bind.mp (wpG_noX h2)
    obtain ⟨Rw, mw⟩ := R0.wipe h0
    have nD0 : ¬ W0 D := fun z => R0.out D z hD
    have o2 : ∀ a, plus W0 D a → W0 a ∨ H1 a = none := fun a z => z.elim .inl fun z => .inr (z ▸ hD)
    refine ⟨fun i m Hc => i ≤ xs.length ∧ m = xs.length - i ∧ ∃ si acc accV, Hc D = some (.lst accV) ∧ RepA K mg (Wf (plus W0 D) si (wipe σ ow)) Hc acc accV ∧ acc.length ≤ sizeLine ∧ (ow.any fun i => isOwn si[i]?) = false ∧ Rel K mg (plus W0 D) si (wipe σ ow) Hc ∧ Mv s0 σ H1 si (wipe σ ow) Hc ∧
      wpG (compL ow tg (fun s => evT O ifs s) (fun s => (ev O e s).bind frz) (xs.drop i) acc si) (fun acc s' => ∀ v H', PostE K mg W0 s σ H (.own (.lst acc)) (backS s0 s' ow) v H' → Q v H') (fun _ _ => False), ⟨xs.length, Nat.zero_le _, rfl, wipeS s0 ow, [], [], upd_same, .nil, Nat.zero_le _, wiped_own, ?_, ?_, h3⟩, ?_⟩
    · have g := grow_upd (o := .lst []) hD
      refine Rw.grow g (fun a z => z.elim (fun z => (Mv.grow (s := s0) (σ := σ) g).trk a (R0.out a z)) fun z => by rw [z, upd_same]; exact fun z => by cases z) o2
    · exact mw.trans (Mv.grow (grow_upd hD))
    · rintro i m Hc ⟨hi, rfl, si, acc, accV, eD, ra, la, oi, Ri, mi, hw⟩
      have kc : Keep (Wf W0 s0 σ) H1 (Wf (plus W0 D) si (wipe σ ow)) Hc := ⟨fun a u q n => mi.keep a u q fun z => n (.inr z), fun a z => z.elim (fun z => (o2 a z).imp .inl id) fun z => (mi.own a z).imp .inr id⟩
      by_cases hlt : i < xs.length
      · refine .inr ⟨it.go _ _ i kc hlt, fun H' => ∃ si acc accV, H' D = some (.lst accV) ∧ RepA K mg (Wf (plus W0 D) si (wipe σ ow)) H' acc accV ∧ acc.length ≤ sizeLine ∧ (ow.any fun i => isOwn si[i]?) = false ∧ Rel K mg (plus W0 D) si (wipe σ ow) H' ∧ Mv s0 σ H1 si (wipe σ ow) H' ∧
          wpG (compL ow tg (fun s => evT O ifs s) (fun s => (ev O e s).bind frz) (xs.drop (i + 1)) acc si) (fun acc s' => ∀ v H', PostE K mg W0 s σ H (.own (.lst acc)) (backS s0 s' ow) v H' → Q v H') (fun _ _ => False), fun H' ⟨si, z⟩ => ⟨xs.length - (i + 1), by omega, hlt, rfl, si, z⟩, fun x H' y => ?_⟩
        obtain ⟨gy, d, ed, rd⟩ := it.yld _ _ i x H' kc hlt (wf_trk Ri) y
        have ex : xs.drop i = d :: xs.drop (i + 1) := by
          have : xs[i]? = some xs[i] := by simp [hlt]
          rw [this] at ed
          cases ed
          exact List.drop_eq_getElem_cons hlt
        rw [ex] at hw
        have gm : Mv si (wipe σ ow) Hc si (wipe σ ow) H' := Mv.grow gy
        have R' := Ri.grow gy (fun a z => gm.trk a (Ri.out a z)) fun a z => .inl z
        refine ⟨plus W0 D, si, d, R', rd, (wpG_bind.mp hw).mono (fun _ s2 hw σ2 tgo m2 R2 => ?_) fun _ _ z => z⟩
        have eσ : wipe σ2 ow = wipe σ ow := (tgo ow ht).trans wipe_idem
        refine ⟨eσ, plus W0 D, s2, R2, (wpG_bind.mp hw).mono (fun b s3 hw H3 m3 R3 => ?_) fun _ _ z => z.elim⟩
        have m13 : Mv si (wipe σ ow) Hc s3 σ2 H3 := (gm.trans m2).trans m3
        have nDo : ¬ OwnP si (wipe σ ow) D := fun z => (Ri.ownTrk z).2 (.inr rfl)
        cases b with
        | false =>
          dsimp only
          rw [if_neg Bool.false_ne_true]
          obtain ⟨o3, hw⟩ := wpG_wipeC (wpG_bind.mp hw)
          obtain ⟨R4, m4⟩ := R3.wipe o3
          rw [eσ] at R4 m4
          refine ⟨_, acc, accV, m13.keep D _ eD nDo, ra.mv (m13.trans m4).kp, la, wiped_own, R4, (mi.trans m13).trans m4, hw⟩
        | true =>
          dsimp only
          rw [if_pos rfl]
          refine tE_of R3 (wpG_bind.mp (wpG_bind.mp hw)) (fun xv s4 y H4 P4 hw => ?_) fun _ _ z => z.elim
          obtain ⟨dy, s5, e5, hw⟩ := wpG_frz hw
          obtain ⟨R5, m5, ry⟩ := frz_ok P4.rel P4.op e5
          split at hw
          · rename_i hsz
            obtain ⟨o5, hw⟩ := wpG_wipeC (wpG_bind.mp hw)
            obtain ⟨R6, m6⟩ := R5.wipe o5
            rw [eσ] at R6 m6
            have m16 : Mv si (wipe σ ow) Hc (wipeS s5 ow) (wipe σ ow) H4 := ((m13.trans P4.mv).trans m5).trans m6
            have eD4 : H4 D = some (.lst accV) := m16.keep D _ eD nDo
            refine ⟨accV, eD4, by rw [← ra.len]; exact hsz, ?_⟩
            have k7 : Keep (Wf (plus W0 D) (wipeS s5 ow) (wipe σ ow)) H4 (Wf (plus W0 D) (wipeS s5 ow) (wipe σ ow)) (upd H4 D (.lst (accV ++ [y]))) := ⟨fun a u q n => by
              rw [upd_ne (fun z => n (.inl (.inr z)))]
              exact q, fun a z => .inl z⟩
            refine ⟨_, acc ++ [dy], accV ++ [y], upd_same, ((ra.mv m16.kp).append (.cons (ry.mv m6.kp) .nil)).mv k7, ?_, wiped_own, R6.updO (.inr rfl), (mi.trans m16).updN hD, hw⟩
            rw [List.length_append, List.length_singleton]
            exact hsz
          · exact hw.elim
      · have ei : i = xs.length := by omega
        subst ei
        rw [List.drop_length] at hw
        refine .inl ⟨it.stop _ _ _ kc (Nat.le_refl _), hw _ _ ?_⟩
        obtain ⟨Rb, mb⟩ := R0.back h0 oi Ri mi o2
        have nb : ¬ OwnP (backS s0 si ow) σ D := fun z => (mb.own D z).elim (fun z => (R0.ownTrk z).1 hD) fun _ => by
          exact (Rb.ownTrk z).2 (.inr rfl)
        refine ⟨m0.trans mb, D, rfl, m0.fresh hD, nD0, nb, Rb, .lst eD (ra.mv ⟨fun _ _ h _ => h, fun a z => ?_⟩) la⟩
        rcases z with z | z
        · exact .inl (.inl z)
        · by_cases q : OwnP si (wipe σ ow) a
          · exact .inl (.inr q)
          · exact absurd z fun ⟨j, z1, z2⟩ => q (by
              by_cases hj : j ∈ ow
              · exfalso
                have hl : si.length = s0.length := by rw [Ri.len, R0.len, wipe_length]
                by_cases q2 : j < si.length
                · rw [backS_in hj q2] at z1
                  have := any_own h0 hj
                  rw [List.getElem?_eq_getElem (by omega)] at z1 this
                  have z1 : isOwn (some s0[j]) = true := z1
                  rw [this] at z1
                  cases z1
                · rw [List.getElem?_eq_none (by rw [backS_len]; omega)] at z1
                  cases z1
              · rw [backS_out hj] at z1
                exact ⟨j, z1, by rw [wipe_out hj]; exact z2⟩)
end
end GS

/-! GS12: statements. -/
namespace GS
open PySem PySem.Spec PyProof.Rows L2

section
variable (K : PySem.W.Frag) (mg : Str → Option Value) (Wx : L2.WX) (W0 : Addr → Prop) (s : Ev) (σ : L2.St) (H : Hp)
/-- what a return leaves -/
def RetR (v : RV) (s' : Ev) (σ' : L2.St) (w : V) (H' : Hp) : Prop :=
  match v with
  | .d d => Rel K mg W0 s' σ' H' ∧ Rep K mg (Wf W0 s' σ') H' d w
  | .own o => ∃ p, w = .ref p ∧ (OwnP s σ p ∨ H p = none) ∧ ¬ W0 p ∧ ¬ OwnP s' σ' p ∧ Rel K mg (plus W0 p) s' σ' H' ∧ ObAt K mg (Wf (plus W0 p) s' σ') H' p o
  | .sl _ => False
def EndOf (D : Ends) : Fl → Ev → Prop := fun fl s' =>
  match fl with
  | .nx => ∀ σ' H', Mv s σ H s' σ' H' → Rel K mg W0 s' σ' H' → D.nx σ' H'
  | .brk => ∀ σ' H', Mv s σ H s' σ' H' → Rel K mg W0 s' σ' H' → D.bk σ' H'
  | .ct => ∀ σ' H', Mv s σ H s' σ' H' → Rel K mg W0 s' σ' H' → D.ct σ' H'
  | .ret v => ∀ w σ' H', Mv s σ H s' σ' H' → RetR K mg W0 s σ H v s' σ' w H' → D.rt w H'
def EWs : Xn → Ev → Prop := fun x s' => ∀ c d σ' H', Mv s σ H s' σ' H' → Rel K mg W0 s' σ' H' → XnAt mg x c d H' → Wx c d σ' H'
end
section
variable (O : Ora) (K : PySem.W.Frag) (mg : Str → Option Value) (Wx : L2.WX)
def tS (a : CS) : TS := fun D σ H => ∃ W0 s, Rel K mg W0 s σ H ∧ wpG (exS O a s) (EndOf K mg W0 s σ H D) (EWs K mg Wx W0 s σ H)
def tB (a : CSs) : TS := fun D σ H => ∃ W0 s, Rel K mg W0 s σ H ∧ wpG (exB O a s) (EndOf K mg W0 s σ H D) (EWs K mg Wx W0 s σ H)
end
section
variable {O : Ora} {K : PySem.W.Frag} {mg : Str → Option Value} {Wx : L2.WX} {W0 : Addr → Prop} {s s' s1 s2 : Ev} {σ σ1 : L2.St} {H H' H1 : Hp} {D : Ends} {a b c e : GS.CE} {x y : CS} {r q : CSs}
theorem RetR.pre {v : RV} {σ' : L2.St} {w : V} (m : Mv s σ H s1 σ1 H1) (h : RetR K mg W0 s1 σ1 H1 v s' σ' w H') : RetR K mg W0 s σ H v s' σ' w H' := by
  cases v with
  | d d => exact h
  | sl i => exact h
  | own o =>
    obtain ⟨p, h1, h2, h3⟩ := h
    exact ⟨p, h1, h2.elim (m.own p) fun z => .inr (m.fresh z), h3⟩
theorem EndOf.pre {fl : Fl} (m : Mv s σ H s1 σ1 H1) (h : EndOf K mg W0 s σ H D fl s') : EndOf K mg W0 s1 σ1 H1 D fl s' := by
  cases fl with
  | nx => exact fun σ' H' m' R => h σ' H' (m.trans m') R
  | brk => exact fun σ' H' m' R => h σ' H' (m.trans m') R
  | ct => exact fun σ' H' m' R => h σ' H' (m.trans m') R
  | ret v => exact fun w σ' H' m' R => h w σ' H' (m.trans m') (R.pre m)
theorem EWs.pre {x : Xn} (m : Mv s σ H s1 σ1 H1) (h : EWs K mg Wx W0 s σ H x s') : EWs K mg Wx W0 s1 σ1 H1 x s' := fun c d σ' H' m' R t => h c d σ' H' (m.trans m') R t
theorem EWs.ex {x : Xn} (h : EWs K mg Wx W0 s σ H x s') : ∀ c d H', PostX K mg W0 s σ H x s' c d H' → Wx c d σ H' := fun c d H' P => h c d σ H' P.mv P.rel P.xn
theorem ews : ∀ x s', EWs K mg Wx W0 s σ H x s' → ∀ c d H', PostX K mg W0 s σ H x s' c d H' → Wx c d σ H' := fun _ _ h => h.ex
theorem Rel.take {i : Nat} {o : Ob} (R : Rel K mg W0 s σ H) (h : s[i]? = some (.own o)) : ∃ p, σ[i]? = some (some (.ref p)) ∧ OwnP s σ p ∧ ¬ W0 p ∧ ¬ OwnP (s.set i .emp) σ p ∧ Rel K mg (plus W0 p) (s.set i .emp) σ H ∧ ObAt K mg (Wf (plus W0 p) (s.set i .emp) σ) H p o ∧ Mv s σ H (s.set i .emp) σ H := by
  have hl := lt_of h
  obtain ⟨p, hp, n0, ob⟩ := R.own i o (own_at h)
  have hop : OwnP s σ p := ⟨i, by rw [h]; rfl, hp⟩
  have less : ∀ a, OwnP (s.set i .emp) σ a → OwnP s σ a := fun a z => (own_less rfl z).1
  have np : ¬ OwnP (s.set i .emp) σ p := fun z => by
    obtain ⟨j, h1, h2, h3⟩ := (own_less rfl z).2 hl hp
    exact h1 (R.dis j i p h2 (by rw [h]; rfl) h3 hp)
  have k : Keep (Wf W0 s σ) H (Wf (plus W0 p) (s.set i .emp) σ) H := ⟨fun a u h _ => h, fun a z => .inl (z.elim (fun z => z.elim .inl fun z => .inr (z ▸ hop)) fun z => .inr (less a z))⟩
  refine ⟨p, hp, hop, n0, np, ⟨by rw [List.length_set]; exact R.len, fun a z => z.elim (R.out a) fun z => z ▸ ob.trk, fun j d hj => ?_, fun j q hj => ?_, fun j m a h1 h2 h3 h4 => ?_⟩, ob.mv k fun _ h => h, ⟨fun _ _ h _ => h, fun a z => .inl (less a z), fun _ h => h, fun j hj => ?_⟩⟩
  · by_cases e : i = j
    · subst e; rw [set_at hl] at hj; cases hj
    · rw [set_ne e] at hj
      obtain ⟨v, h1, h2⟩ := R.val j d hj
      exact ⟨v, h1, h2.mv k⟩
  · by_cases e : i = j
    · subst e; unfold ownAt at hj; rw [set_at hl] at hj; cases hj
    · unfold ownAt at hj
      rw [set_ne e] at hj
      obtain ⟨a, h1, h2, h3⟩ := R.own j q hj
      refine ⟨a, h1, fun z => z.elim h2 fun z => ?_, h3.mv k fun _ h => h⟩
      subst z
      exact e (R.dis i j a (by rw [h]; rfl) (own_is hj) hp h1)
  · have g : ∀ n : Nat, isOwn (s.set i .emp)[n]? = true → isOwn s[n]? = true := fun n hn => by
      by_cases e : i = n
      · subst e; rw [set_at hl] at hn; cases hn
      · rw [set_ne e] at hn; exact hn
    exact R.dis j m a (g j h1) (g m h2) h3 h4
  · by_cases e : i = j
    · subst e; rw [h] at hj; cases hj
    · rw [set_ne e]; exact ⟨hj, rfl⟩
theorem ret_ok {rv : RV} {v : V} {fl : Fl} (P : PostE K mg W0 s σ H rv s1 v H1) (e : retV rv s1 = .ok fl s2) : ∃ x, fl = .ret x ∧ Mv s σ H s2 σ H1 ∧ RetR K mg W0 s σ H x s2 σ v H1 := by
  have r := P.rep
  cases rv with
  | d d =>
    cases e
    exact ⟨_, rfl, P.mv, r⟩
  | own o =>
    cases e
    obtain ⟨p, h1, h2, h3, h4, h5, h6⟩ := r
    exact ⟨_, rfl, P.mv, p, h1, .inr h2, h3, h4, h5, h6⟩
  | sl i =>
    have e : (match s1[i]? with
      | some (.own o) => Rs.ok (Fl.ret (.own o)) (s1.set i .emp)
      | some (.val d) => .ok (.ret (.d d)) s1
      | _ => .stuck) = .ok fl s2 := e
    split at e
    · rename_i o q
      cases e
      obtain ⟨p, h1, h2, h3, h4, h5, h6, m⟩ := r.1.take q
      rw [r.2] at h1
      cases h1
      exact ⟨_, rfl, P.mv.trans m, p, rfl, P.mv.own p h2, h3, h4, h5, h6⟩
    · rename_i d q
      cases e
      obtain ⟨u, h1, h2⟩ := r.1.val i _ q
      rw [r.2] at h1
      cases h1
      exact ⟨_, rfl, P.mv, r.1, h2⟩
    · cases e
theorem wpG_ret {rv : RV} {P : Fl → Ev → Prop} {E : Xn → Ev → Prop} (h : wpG (retV rv s) P E) : ∃ fl s', retV rv s = .ok fl s' ∧ P fl s' := by
  cases e : retV rv s with
  | ok a s' => rw [e] at h; exact ⟨a, s', rfl, h⟩
  | stuck => rw [e] at h; exact h.elim
  | er x s' =>
    exfalso
    cases rv with
    | d x => cases e
    | own o => cases e
    | sl i =>
      unfold retV at e
      simp only at e
      split at e <;> cases e
/-! ### blocks -/
theorem cs_snil (h : tB O K mg Wx .nil D σ H) : tNext D σ H := by
  obtain ⟨W0, s, R, h⟩ := h
  exact h σ H .refl R
theorem cs_scons (h : tB O K mg Wx (.cons x r) D σ H) : tSeq (tS O K mg Wx x) (tB O K mg Wx r) D σ H := by
  obtain ⟨W0, s, R, h⟩ := h
  have h : wpG ((exS O x s).bind fun f s => match f with
    | .nx => exB O r s
    | f => .ok f s) _ _ := h
  refine ⟨W0, s, R, (wpG_bind.mp h).mono (fun fl s1 h1 => ?_) fun _ _ h => h⟩
  cases fl with
  | nx => exact fun σ' H' m R' => ⟨W0, s1, R', h1.mono (fun fl s' q => q.pre m) fun x s' q => q.pre m⟩
  | brk => exact h1
  | ct => exact h1
  | ret v => exact h1
theorem cs_pss (h : tS O K mg Wx .pss D σ H) : tNext D σ H := by
  obtain ⟨W0, s, R, h⟩ := h
  exact h σ H .refl R
theorem cs_brk (h : tS O K mg Wx .brk D σ H) : tBreak D σ H := by
  obtain ⟨W0, s, R, h⟩ := h
  exact h σ H .refl R
theorem cs_ct (h : tS O K mg Wx .ct D σ H) : tCont D σ H := by
  obtain ⟨W0, s, R, h⟩ := h
  exact h σ H .refl R
theorem cs_ret (h : tS O K mg Wx (.ret e) D σ H) : tRet (tE O K mg Wx e) D σ H := by
  obtain ⟨W0, s, R, h⟩ := h
  refine tE_of R (wpG_bind.mp h) (fun xv s1 v H1 P1 h1 => ?_) ews
  obtain ⟨fl, s2, e2, h2⟩ := wpG_ret h1
  obtain ⟨x, rfl, m, r⟩ := ret_ok P1 e2
  exact h2 v σ H1 m r
theorem cs_retN (h : tS O K mg Wx .retN D σ H) : tRetN D σ H := by
  obtain ⟨W0, s, R, h⟩ := h
  exact h .non σ H .refl ⟨R, .non⟩
theorem cs_ex (h : tS O K mg Wx (.ex e) D σ H) : tDrop (tE O K mg Wx e) D σ H := by
  obtain ⟨W0, s, R, h⟩ := h
  exact tE_of R (wpG_bind.mp h) (fun xv s1 v H1 P1 h1 => h1 σ H1 P1.mv P1.rel) ews
theorem cs_set {i : Nat} (h : tS O K mg Wx (.set i e) D σ H) : tAsg (tE O K mg Wx e) (gName i) D σ H := by
  obtain ⟨W0, s, R, h⟩ := h
  refine tE_of R (wpG_bind.mp h) (fun xv s1 v H1 P1 h1 => ?_) ews
  obtain ⟨s2, e2, h2⟩ := wpG_putV (wpG_bind.mp h1)
  obtain ⟨m, R2⟩ := putV_ok P1 e2
  exact h2 _ _ m R2
theorem wpG_bindT {tg : CT} {d : GS.D} {P : Unit → Ev → Prop} {E : Xn → Ev → Prop} (h : wpG (bindT tg d s) P E) : wpG (bindT tg d s) P (fun _ _ => False) := by
  have all : ∀ {is : List Nat} {ds : List GS.D} {s : Ev}, wpG (bindAll is ds s) P E → wpG (bindAll is ds s) P (fun _ _ => False) := fun {is} => by
    induction is with
    | nil => intro ds s h; cases ds <;> exact h
    | cons i is ih =>
      intro ds s h
      cases ds with
      | nil => exact h
      | cons d ds =>
        have h : wpG ((putS i (.val d) s).bind fun _ s => bindAll is ds s) P E := h
        obtain ⟨e, h1⟩ := wpG_putS (wpG_bind.mp h)
        show wpG ((putS i (.val d) s).bind fun _ s => bindAll is ds s) P _
        rw [e]
        exact ih h1
  cases tg with
  | nm i =>
    obtain ⟨e, h1⟩ := wpG_putS (show wpG (putS i (.val d) s) P E from h)
    show wpG (putS i (.val d) s) P _
    rw [e]
    exact h1
  | tup is =>
    cases d with
    | tuple ds => exact all h
    | _ => exact h
theorem cs_tset {tg : CT} (h : tS O K mg Wx (.tset tg e) D σ H) : tAsg (tE O K mg Wx e) (tG K mg tg) D σ H := by
  obtain ⟨W0, s, R, h⟩ := h
  refine tE_of R (wpG_bind.mp h) (fun xv s1 v H1 P1 h1 => ?_) ews
  obtain ⟨d, s2, e2, h2⟩ := wpG_frz (wpG_bind.mp h1)
  obtain ⟨R2, m2, r2⟩ := frz_ok P1.rel P1.op e2
  refine ⟨W0, s2, d, R2, r2, (wpG_bindT (wpG_bind.mp h2)).mono (fun _ s3 h3 σ' _ m3 R3 => ?_) fun _ _ z => z⟩
  exact h3 σ' H1 ((P1.mv.trans m2).trans m3) R3
theorem cs_dput {i : Nat} (h : tS O K mg Wx (.dput i a b) D σ H) : sDPut (tVar i) (tE O K mg Wx a) (tE O K mg Wx b) D σ H := by
  obtain ⟨W0, s, R, h⟩ := h
  have h : wpG ((ev O b s).bind fun x s => (frz x s).bind fun x s => if (ownAt s i).isNone then Rs.stuck else (ev O a s).bind fun y s => (frz y s).bind fun y s => match ownAt s i with
    | some o => match mutD "setitem" o [y, x] with
      | some (_, o') => Rs.ok Fl.nx (setOb s i o')
      | none => .stuck
    | none => .stuck) _ _ := h
  refine tE_of R (wpG_bind.mp h) (fun xv s1 v H1 P1 h1 => ?_) ews
  obtain ⟨x, s2, e2, h2⟩ := wpG_frz (wpG_bind.mp h1)
  obtain ⟨R2, m2, rx⟩ := frz_ok P1.rel P1.op e2
  have m12 : Mv s σ H s2 σ H1 := P1.mv.trans m2
  split at h2
  · exact h2.elim
  · rename_i hn
    obtain ⟨o0, e0⟩ := Option.ne_none_iff_exists'.mp (by simpa using hn : ¬ ownAt s2 i = none)
    obtain ⟨p, hp, n0, _⟩ := R2.own i o0 e0
    refine ⟨_, hp, tE_of R2 (wpG_bind.mp h2) (fun yv s3 w H3 P3 h3 => ?_) (xpre m12 ews)⟩
    obtain ⟨y, s4, e4, h4⟩ := wpG_frz (wpG_bind.mp h3)
    obtain ⟨R4, m4, ry⟩ := frz_ok P3.rel P3.op e4
    have m24 : Mv s2 σ H1 s4 σ H3 := P3.mv.trans m4
    split at h4
    · rename_i o e5
      split at h4
      · rename_i _ o' e6
        obtain ⟨p', hp', n1, ob⟩ := R4.own i o e5
        rw [hp] at hp'
        cases hp'
        unfold mutD at e6
        split at e6
        · rename_i q _; exact absurd q (by decide)
        · rename_i q _; exact absurd q (by decide)
        · rename_i kvs k d _ eq
          cases eq
          split at e6
          · rename_i hc
            simp only [Bool.and_eq_true, decide_eq_true_eq] at hc
            cases e6
            obtain ⟨j, rfl⟩ := keyOk_of hc.1
            have hk := keyRep (.of ry)
            subst hk
            cases ob with
            | @dic _ kws h5 h6 h7 h8 =>
              have kv : KvR K mg (Wf W0 s4 σ) H3 kvs kws := ⟨h6, h7⟩
              have rx4 := rx.mv m24.kp
              refine ⟨p, _, rfl, DPut.k h5 (by rw [← kv.len]; exact hc.2), ?_⟩
              obtain ⟨R5, m5⟩ := R4.chg (u := .dK (putK kws j v)) (o := .dic (putD (keyD j) x kvs)) e5 hp fun W' kk => by
                have kv' := (kv.put j rx4).mv kk
                have hl := putD_len (keyD j) x kvs
                exact .dic upd_same kv'.ks kv'.vs (by omega)
              exact h4 _ _ ((m12.trans m24).trans m5) R5
          · cases e6
        · cases e6
      · exact h4.elim
    · exact h4.elim
theorem cs_ifs (h : tS O K mg Wx (.ife c r q) D σ H) : tIfS (tT O K mg Wx c) (tB O K mg Wx r) (tB O K mg Wx q) D σ H := by
  obtain ⟨W0, s, R, h⟩ := h
  refine tT_of R (wpG_bind.mp h) (fun t s1 H1 m R1 h1 => ?_) ews
  cases t with
  | true =>
    rw [if_pos rfl]
    exact ⟨W0, s1, R1, h1.mono (fun fl s' q => q.pre m) fun x s' q => q.pre m⟩
  | false =>
    rw [if_neg Bool.false_ne_true]
    exact ⟨W0, s1, R1, h1.mono (fun fl s' q => q.pre m) fun x s' q => q.pre m⟩
theorem Mv.put {s3 : Ev} {σ2 σ3 : L2.St} {H2 : Hp} {i : Nat} {x : Sl} {v : Option V} (m : Mv s σ H s2 σ2 H2) (hio : isIo s2[i]? = false) (e1 : s3 = s2.set i x) (e2 : σ3 = σ2.set i v) (o : ∀ a, OwnP s3 σ3 a → OwnP s2 σ2 a ∨ H a = none) : Mv s σ H s3 σ3 H2 :=
  ⟨m.keep, fun a z => (o a z).elim (m.own a) .inr, m.trk, fun j hj => by
    obtain ⟨h1, h2⟩ := m.io j hj
    have ne : i ≠ j := fun z => by rw [z, h1] at hio; cases hio
    rw [e1, e2, set_ne ne, sset_ne ne]
    exact ⟨h1, h2⟩⟩
/-- a settled value: plain, or a new object -/
inductive Held (K : PySem.W.Frag) (mg : Str → Option Value) (W0 W1 : Addr → Prop) (s : Ev) (σ : L2.St) (H0 H : Hp) : RV → V → Prop
  | d {d : GS.D} {v : V} (e : ∀ a, W1 a ↔ W0 a) (r : Rep K mg (Wf W1 s σ) H d v) : Held K mg W0 W1 s σ H0 H (.d d) v
  | own {o : Ob} {p : Addr} (e : ∀ a, W1 a ↔ plus W0 p a) (f : H0 p = none) (n0 : ¬ W0 p) (n1 : ¬ OwnP s σ p) (ob : ObAt K mg (Wf W1 s σ) H p o) : Held K mg W0 W1 s σ H0 H (.own o) (.ref p)
theorem Rel.iff {W1 : Addr → Prop} (R : Rel K mg W0 s σ H) (e : ∀ a, W1 a ↔ W0 a) : Rel K mg W1 s σ H :=
  R.grow (fun _ _ h => h) (fun a z => R.out a ((e a).mp z)) fun a z => .inl ((e a).mp z)
theorem stl_ok {rv : RV} {v : V} {x : RV} (P : PostE K mg W0 s σ H rv s1 v H1) (e : stl rv s1 = .ok x s2) : ∃ W1, Rel K mg W1 s2 σ H1 ∧ Held K mg W0 W1 s2 σ H H1 x v ∧ Mv s σ H s2 σ H1 ∧ (∀ a, W0 a → W1 a) := by
  cases rv with
  | d d =>
    cases e
    exact ⟨W0, P.rep.1, .d (fun _ => Iff.rfl) P.rep.2, P.mv, fun _ h => h⟩
  | own o =>
    cases e
    obtain ⟨p, rfl, h2, h3, h4, h5, h6⟩ := P.rep
    exact ⟨plus W0 p, h5, .own (fun _ => Iff.rfl) h2 h3 h4 h6, P.mv, fun _ h => .inl h⟩
  | sl i =>
    have e : ((frz (.sl i) s1).bind fun d s => Rs.ok (RV.d d) s) = .ok x s2 := e
    cases q : frz (.sl i) s1 with
    | er y s3 => rw [q] at e; cases e
    | stuck => rw [q] at e; cases e
    | ok d s3 =>
      rw [q] at e
      cases e
      obtain ⟨R1, m1, r⟩ := frz_ok P.rel P.op q
      exact ⟨W0, R1, .d (fun _ => Iff.rfl) r, P.mv.trans m1, fun _ h => h⟩
theorem wpG_stl {rv : RV} {P : RV → Ev → Prop} {E : Xn → Ev → Prop} (h : wpG (stl rv s) P E) : ∃ x s', stl rv s = .ok x s' ∧ P x s' := by
  cases rv with
  | d d => exact ⟨_, _, rfl, h⟩
  | own o => exact ⟨_, _, rfl, h⟩
  | sl i =>
    have h : wpG ((frz (.sl i) s).bind fun d s => Rs.ok (RV.d d) s) P E := h
    obtain ⟨d, s1, e, h1⟩ := wpG_frz (wpG_bind.mp h)
    exact ⟨_, _, by show ((frz (.sl i) s).bind fun d s => Rs.ok (RV.d d) s) = _; rw [e]; rfl, h1⟩
/-- a settled value goes to a slot -/
theorem held_put {W1 : Addr → Prop} {i : Nat} {x : RV} {v : V} (R : Rel K mg W1 s σ H1) (h : Held K mg W0 W1 s σ H H1 x v) (e : putV i x s = .ok () s2) : Rel K mg W0 s2 (σ.set i (some v)) H1 ∧ isIo s[i]? = false ∧ (∃ sl, s2 = s.set i sl) ∧
    (∀ a, OwnP s2 (σ.set i (some v)) a → OwnP s σ a ∨ (H a = none ∧ W1 a)) ∧ Keep (Wf W1 s σ) H1 (Wf W0 s2 (σ.set i (some v))) H1 := by
  cases h with
  | d e1 r =>
    have e : putS i (.val _) s = .ok () s2 := e
    obtain ⟨h1, h2, rfl⟩ := putS_ok e
    obtain ⟨R2, m⟩ := (R.iff (fun a => (e1 a).symm) : Rel K mg W0 s σ H1).putD h1 h2 (r.mv ⟨fun _ _ h _ => h, fun a z => .inl (z.imp (e1 a).mpr id)⟩)
    have less : ∀ a, OwnP _ (σ.set i (some v)) a → OwnP s σ a := fun a z => (m.own a z).elim (fun z => z) fun q => by
      exact absurd q (R2.ownTrk z).1
    exact ⟨R2, h2, ⟨_, rfl⟩, fun a z => .inl (less a z), ⟨fun _ _ h _ => h, fun a z => .inl (z.imp (e1 a).mpr (less a))⟩⟩
  | @own o p e1 f n0 n1 ob =>
    have e : putS i (.own _) s = .ok () s2 := e
    obtain ⟨h1, h2, rfl⟩ := putS_ok e
    obtain ⟨R2, less⟩ := (R.iff (fun a => (e1 a).symm) : Rel K mg (plus W0 p) s σ H1).putO h1 h2 n0 n1 (ob.mv ⟨fun _ _ h _ => h, fun a z => .inl (z.imp (e1 a).mpr id)⟩ fun _ h => h)
    refine ⟨R2, h2, ⟨_, rfl⟩, fun a z => (less a z).imp id fun (q : a = p) => ⟨q ▸ f, (e1 a).mpr (.inr q)⟩, ⟨fun _ _ h _ => h, fun a z => .inl ?_⟩⟩
    rcases z with z | z
    · exact .inl ((e1 a).mpr (.inl z))
    · rcases less a z with z | z
      · exact .inr z
      · exact .inl ((e1 a).mpr (.inr z))
theorem cs_par {i j : Nat} (h : tS O K mg Wx (.par i j a b) D σ H) : tPar i j (tCons (tE O K mg Wx a) (tCons (tE O K mg Wx b) tNil)) D σ H := by
  obtain ⟨W0, s, R, h⟩ := h
  have h : wpG ((ev O a s).bind fun x s => (stl x s).bind fun x s => (ev O b s).bind fun y s => (stl y s).bind fun y s => (putV i x s).bind fun _ s => (putV j y s).bind fun _ s => Rs.ok Fl.nx s) _ _ := h
  refine tE_of R (wpG_bind.mp h) (fun xv s1 v H1 P1 h1 => ?_) ews
  obtain ⟨x, s2, e2, h2⟩ := wpG_stl (wpG_bind.mp h1)
  obtain ⟨W1, R2, hx, m2, w01⟩ := stl_ok P1 e2
  refine tE_of R2 (wpG_bind.mp h2) (fun yv s3 w H3 P3 h3 => ?_) fun y s' q c d H' P => q.ex c d H' ⟨m2.trans P.mv, P.rel.grow (fun _ _ h => h) (fun a z => P.rel.out a (w01 a z)) fun a z => .inl (w01 a z), P.xn⟩
  obtain ⟨y, s4, e4, h4⟩ := wpG_stl (wpG_bind.mp h3)
  obtain ⟨W2, R4, hy, m4, w12⟩ := stl_ok P3 e4
  obtain ⟨s5, e5, h5⟩ := wpG_putV (wpG_bind.mp h4)
  obtain ⟨s6, e6, h6⟩ := wpG_putV (wpG_bind.mp h5)
  have m04 := m2.trans m4
  -- the first value is held behind the second
  obtain ⟨W1', hx', hy', ew⟩ : ∃ W1', Held K mg W1' W2 s4 σ H H3 x v ∧ (∀ {s5}, Rel K mg W1' s5 (σ.set i (some v)) H3 → Keep (Wf W2 s4 σ) H3 (Wf W1' s5 (σ.set i (some v))) H3 → Held K mg W0 W1' s5 (σ.set i (some v)) H H3 y w) ∧ ∀ a, W2 a → W0 a ∨ H a = none := by
    cases hx with
    | d e1 r =>
      cases hy with
      | d e3 r3 =>
        exact ⟨W0, .d (fun a => (e3 a).trans (e1 a)) (r.mv ⟨fun a u h n => m4.keep a u h fun z => n (.inr z), fun a z => z.elim (fun z => .inl (.inl ((e3 a).mp z))) fun z => (m4.own a z).imp .inr id⟩), fun R5 k5 => .d (fun _ => Iff.rfl) (r3.mv k5), fun a z => .inl ((e1 a).mp ((e3 a).mp z))⟩
      | @own o p e3 f3 n3 n4 ob3 =>
        have e31 : ∀ a, W2 a ↔ plus W0 p a := fun a => (e3 a).trans ⟨fun z => z.imp (e1 a).mp id, fun z => z.imp (e1 a).mpr id⟩
        refine ⟨plus W0 p, .d e31 (r.mv ⟨fun a u h n => m4.keep a u h fun z => n (.inr z), fun a z => z.elim (fun z => ((e3 a).mp z).elim (fun z => .inl (.inl z)) fun (z : a = p) => .inr (z ▸ f3)) fun z => (m4.own a z).imp .inr id⟩), fun R5 k5 => .own (fun _ => Iff.rfl) (m2.fresh f3) (fun z => n3 ((e1 p).mpr z)) (fun z => (R5.ownTrk z).2 (.inr rfl)) (ob3.mv k5 fun _ h => h), fun a z => ((e31 a).mp z).imp id fun (z : a = p) => z ▸ m2.fresh f3⟩
    | @own o1 p1 e1 f1 n1 n2 ob1 =>
      have k1 : p1 ≠ p1 → False := fun z => z rfl
      have hp1 : H1 p1 ≠ none := ob1.trk
      cases hy with
      | d e3 r3 =>
        have e31 : ∀ a, W2 a ↔ plus W0 p1 a := fun a => (e3 a).trans (e1 a)
        refine ⟨W0, .own e31 f1 n1 (fun z => (R4.ownTrk z).2 ((e31 p1).mpr (.inr rfl))) (ob1.mv ⟨fun a u h n => m4.keep a u h fun z => n (.inr z), fun a z => z.elim (fun z => .inl (.inl ((e3 a).mp z))) fun z => (m4.own a z).imp .inr id⟩ fun u h => m4.keep p1 u h n2), fun R5 k5 => .d (fun _ => Iff.rfl) (r3.mv k5), fun a z => ((e31 a).mp z).imp id fun (z : a = p1) => z ▸ f1⟩
      | @own o p e3 f3 n3 n4 ob3 =>
        have ne : p1 ≠ p := fun z => hp1 (z ▸ f3)
        have e31 : ∀ a, W2 a ↔ plus (plus W0 p) p1 a := fun a => (e3 a).trans ⟨fun z => z.elim (fun z => ((e1 a).mp z).elim (fun z => .inl (.inl z)) .inr) fun z => .inl (.inr z), fun z => z.elim (fun z => z.elim (fun z => .inl ((e1 a).mpr (.inl z))) .inr) fun z => .inl ((e1 a).mpr (.inr z))⟩
        refine ⟨plus W0 p, .own e31 f1 (fun z => z.elim n1 ne) (fun z => (R4.ownTrk z).2 ((e31 p1).mpr (.inr rfl))) (ob1.mv ⟨fun a u h n => m4.keep a u h fun z => n (.inr z), fun a z => z.elim (fun z => ((e3 a).mp z).elim (fun z => .inl (.inl z)) fun (z : a = p) => .inr (z ▸ f3)) fun z => (m4.own a z).imp .inr id⟩ fun u h => m4.keep p1 u h n2), fun R5 k5 => .own (fun _ => Iff.rfl) (m2.fresh f3) (fun z => n3 ((e1 p).mpr (.inl z))) (fun z => (R5.ownTrk z).2 (.inr rfl)) (ob3.mv k5 fun _ h => h), fun a z => ((e31 a).mp z).elim (fun z => z.imp id fun (z : a = p) => z ▸ m2.fresh f3) fun (z : a = p1) => .inr (z ▸ f1)⟩
  obtain ⟨R5, io5, ⟨sl5, es5⟩, o5, k5⟩ := held_put R4 hx' e5
  obtain ⟨R6, io6, ⟨sl6, es6⟩, o6, k6⟩ := held_put R5 (hy' R5 k5) e6
  have m5 := m04.put io5 es5 rfl fun a z => (o5 a z).imp id And.left
  have m6 := m5.put io6 es6 rfl fun a z => (o6 a z).imp id And.left
  exact ⟨v, w, rfl, h6 _ _ m6 R6⟩
theorem cs_for {tg : CT} {it : CI} (h : tS O K mg Wx (.for_ tg it r) D σ H) : tFor (tI O K mg Wx it) (tG K mg tg) (tB O K mg Wx r) D σ H := by
  obtain ⟨W0, s, R, h⟩ := h
  have h : wpG ((evI O it s).bind fun xs s => forL (bindT tg) (fun s => exB O r s) xs s) _ _ := h
  refine ⟨W0, s, R, (wpG_bind.mp h).mono (fun xs s0 h1 => ?_) fun x s' e => e.ex⟩
  intro J H1 m0 R0 it
  refine ⟨fun i m σi Hi => i ≤ xs.length ∧ m = xs.length - i ∧ ∃ si, Rel K mg W0 si σi Hi ∧ Mv s0 σ H1 si σi Hi ∧ wpG (forL (bindT tg) (fun s => exB O r s) (xs.drop i) si) (EndOf K mg W0 s0 σ H1 D) (EWs K mg Wx W0 s0 σ H1),
    ⟨xs.length, Nat.zero_le _, rfl, s0, R0, .refl, h1.mono (fun _ _ q => q.pre m0) fun _ _ q => q.pre m0⟩, ?_⟩
  rintro i m σi Hi ⟨hi, rfl, si, Ri, mi, hw⟩
  have kc := mi.kp (W0 := W0)
  by_cases hlt : i < xs.length
  · refine .inr ⟨it.go _ _ i kc hlt, fun σ' H' => ∃ si, Rel K mg W0 si σ' H' ∧ Mv s0 σ H1 si σ' H' ∧ wpG (forL (bindT tg) (fun s => exB O r s) (xs.drop (i + 1)) si) (EndOf K mg W0 s0 σ H1 D) (EWs K mg Wx W0 s0 σ H1),
      fun σ' H' ⟨si, z⟩ => ⟨xs.length - (i + 1), by omega, hlt, rfl, si, z⟩, fun x H' y => ?_⟩
    obtain ⟨gy, d, ed, rd⟩ := it.yld _ _ i x H' kc hlt (wf_trk Ri) y
    have ex : xs.drop i = d :: xs.drop (i + 1) := by
      have : xs[i]? = some xs[i] := by simp [hlt]
      rw [this] at ed
      cases ed
      exact List.drop_eq_getElem_cons hlt
    rw [ex] at hw
    have hw : wpG ((bindT tg d si).bind fun _ s => (exB O r s).bind fun f s => match f with
      | .nx => forL (bindT tg) (fun s => exB O r s) (xs.drop (i + 1)) s
      | .ct => forL (bindT tg) (fun s => exB O r s) (xs.drop (i + 1)) s
      | .brk => Rs.ok .nx s
      | .ret v => .ok (.ret v) s) _ _ := hw
    have gm : Mv si σi Hi si σi H' := Mv.grow gy
    have R' := Ri.grow gy (fun a z => gm.trk a (Ri.out a z)) fun a z => .inl z
    refine ⟨W0, si, d, R', rd, (wpG_bindT (wpG_bind.mp hw)).mono (fun _ s2 hw σ2 _ m2 R2 => ?_) fun _ _ z => z⟩
    have m02 := (mi.trans gm).trans m2
    refine ⟨W0, s2, R2, (wpG_bind.mp hw).mono (fun fl s3 hw => ?_) fun _ _ q => q.pre m02⟩
    cases fl with
    | nx => exact fun σ' H' m3 R3 => ⟨s3, R3, m02.trans m3, hw⟩
    | ct => exact fun σ' H' m3 R3 => ⟨s3, R3, m02.trans m3, hw⟩
    | brk => exact fun σ' H' m3 R3 => hw σ' H' (m02.trans m3) R3
    | ret v => exact EndOf.pre (fl := .ret v) m02 hw
  · have ei : i = xs.length := by omega
    subst ei
    rw [List.drop_length] at hw
    exact .inl ⟨it.stop _ _ _ kc (Nat.le_refl _), hw _ _ mi Ri⟩
theorem cs_whl (hO : O.Λ = whileW) (h : tS O K mg Wx (.whl c r) D σ H) : tWhile (tT O K mg Wx c) (tB O K mg Wx r) D σ H := by
  obtain ⟨W0, s, R, h⟩ := h
  have h : wpG (O.Λ (fun s => evB O c s) (fun s => exB O r s) s) _ _ := h
  rw [hO] at h
  obtain ⟨n, h⟩ : ∃ n, wpG (whileN n (fun s => evB O c s) (fun s => exB O r s) s) (EndOf K mg W0 s σ H D) (EWs K mg Wx W0 s σ H) := by
    unfold whileW at h
    split at h
    · exact ⟨_, h⟩
    · exact h.elim
  refine ⟨fun m σi Hi => ∃ si, Rel K mg W0 si σi Hi ∧ Mv s σ H si σi Hi ∧ wpG (whileN m (fun s => evB O c s) (fun s => exB O r s) si) (EndOf K mg W0 s σ H D) (EWs K mg Wx W0 s σ H), ⟨n, s, R, .refl, h⟩, ?_⟩
  rintro m σi Hi ⟨si, Ri, mi, hw⟩
  cases m with
  | zero => exact hw.elim
  | succ m =>
    have hw : wpG ((evB O c si).bind fun t s => if t then (exB O r s).bind fun f s => match f with
      | .nx => whileN m (fun s => evB O c s) (fun s => exB O r s) s
      | .ct => whileN m (fun s => evB O c s) (fun s => exB O r s) s
      | .brk => Rs.ok .nx s
      | .ret v => .ok (.ret v) s
      else .ok .nx s) _ _ := hw
    refine tT_of Ri (wpG_bind.mp hw) (fun t s1 H1 m1 R1 hw => ?_) fun _ _ q => (q.pre mi).ex
    cases t with
    | true =>
      rw [if_pos rfl] at hw ⊢
      have m01 := mi.trans m1
      refine ⟨fun σ' H' => ∃ si, Rel K mg W0 si σ' H' ∧ Mv s σ H si σ' H' ∧ wpG (whileN m (fun s => evB O c s) (fun s => exB O r s) si) (EndOf K mg W0 s σ H D) (EWs K mg Wx W0 s σ H), fun σ' H' z => ⟨m, Nat.lt_succ_self _, z⟩, ?_⟩
      refine ⟨W0, s1, R1, (wpG_bind.mp hw).mono (fun fl s3 hw => ?_) fun _ _ q => q.pre m01⟩
      cases fl with
      | nx => exact fun σ' H' m3 R3 => ⟨s3, R3, m01.trans m3, hw⟩
      | ct => exact fun σ' H' m3 R3 => ⟨s3, R3, m01.trans m3, hw⟩
      | brk => exact fun σ' H' m3 R3 => hw σ' H' (m01.trans m3) R3
      | ret v => exact EndOf.pre (fl := .ret v) m01 hw
    | false =>
      rw [if_neg Bool.false_ne_true] at hw ⊢
      exact hw _ _ (mi.trans m1) R1
end
end GS

/-! GS13: what a def promises; the context of a translated text. -/
namespace GS
open PySem PySem.Spec PyProof.Rows L2

/-! ### lists of trees -/
theorem kwNames_ok : ∀ {kws : List Keyword} {ks : List Str} (env : Env) (pos : Pos), kwNames kws = some ks → (backToKw pos (keywordEach kws env)).all (·.1.isSome) = true ∧ (backToKw pos (keywordEach kws env)).any (·.1.isNone) = false ∧ (backToKw pos (keywordEach kws env)).filterMap (·.1) = ks
  | [], ks, env, pos, h => by cases h; exact ⟨rfl, rfl, rfl⟩
  | ⟨none, e, p⟩ :: r, ks, env, pos, h => by cases h
  | ⟨some x, e, p⟩ :: r, ks, env, pos, h => by
    have h : (kwNames r).map (x :: ·) = some ks := h
    obtain ⟨k, e1, rfl⟩ := some_map h
    obtain ⟨h1, h2, h3⟩ := kwNames_ok env pos e1
    refine ⟨?_, ?_, ?_⟩
    · show (true && (backToKw pos (keywordEach r env)).all (·.1.isSome)) = true
      rw [h1]; rfl
    · show (false || (backToKw pos (keywordEach r env)).any (·.1.isNone)) = false
      rw [h2]; rfl
    · show x :: (backToKw pos (keywordEach r env)).filterMap (·.1) = x :: k
      rw [h3]
def noStar (e : Expr) : Prop := ∀ (es : List Expr) (env : Env), starEach (e :: es) env = (false, eval e env) :: starEach es env
theorem stars_plain : ∀ {es : List Expr}, (∀ e ∈ es, noStar e) → ∀ (env : Env) (pos : Pos), (backTo pos (starEach es env)).any (·.1) = false ∧ (backTo pos (starEach es env)).all (fun x => !x.1) = true
  | [], _, env, pos => ⟨rfl, rfl⟩
  | e :: es, h, env, pos => by
    obtain ⟨h1, h2⟩ := stars_plain (es := es) (fun e he => h e (List.mem_cons_of_mem _ he)) env pos
    rw [h e List.mem_cons_self]
    refine ⟨?_, ?_⟩
    · show (false || (backTo pos (starEach es env)).any (·.1)) = false
      rw [h1]; rfl
    · show (true && (backTo pos (starEach es env)).all (fun x => !x.1)) = true
      rw [h2]; rfl

/-! ### promises of defs, by the evaluator -/
/-- a default's value -/
def dfV : D → V
  | .bool b => .bl b
  | .int i => .int i
  | .str x => .str x
  | _ => .non
def permV (ps : List PA) (ws : List V) : List V := ps.map fun
  | .pos k => ws.getD k .non
  | .io k => ws.getD k .non
  | .dfl d => dfV d
section
variable (K : PySem.W.Frag) (mg : Str → Option Value) (W : Addr → Prop) (H : Hp)
inductive ArgR : List AV → List V → Prop
  | nil : ArgR [] []
  | d {d : D} {v : V} {as : List AV} {vs : List V} (h : Rep K mg W H d v) (r : ArgR as vs) : ArgR (.d d :: as) (v :: vs)
  | io {o : Ob} {p : Addr} {as : List AV} {vs : List V} (h : ObAt K mg W H p o) (w : W p) (r : ArgR as vs) : ArgR (.io o :: as) (.ref p :: vs)
/-- the address that is lent -/
def lentA : List AV → List V → Option Addr
  | .io _ :: _, .ref p :: _ => some p
  | _ :: as, _ :: vs => lentA as vs
  | _, _ => none
/-- the words behind a call: a new object's address is among them -/
def ResR (v : RV) (w : V) (H' : Hp) (W2 : Addr → Prop) : Prop :=
  match v with
  | .d d => W2 = W ∧ Rep K mg W2 H' d w
  | .own o => ∃ q, w = .ref q ∧ H q = none ∧ W2 = plus W q ∧ ObAt K mg W2 H' q o
  | .sl _ => False
def OutR (lent : Option Addr) (out : Option Ob) (H' : Hp) (W2 : Addr → Prop) : Prop :=
  match lent, out with
  | none, none => True
  | some p, some o => ObAt K mg W2 H' p o
  | _, _ => False
structure PostC (lent : Option Addr) (v : RV) (out : Option Ob) (w : V) (H' : Hp) : Prop where
  keep : ∀ a u, H a = some u → lent ≠ some a → H' a = some u
  trk : ∀ a, H a ≠ none → H' a ≠ none
  rep : ∃ W2, ResR K mg W H v w H' W2 ∧ OutR K mg lent out H' W2
structure PostCX (lent : Option Addr) (x : Xn) (out : Option Ob) (c : Value) (d : Option Addr) (H' : Hp) : Prop where
  keep : ∀ a u, H a = some u → lent ≠ some a → H' a = some u
  trk : ∀ a, H a ≠ none → H' a ≠ none
  xn : XnAt mg x c d H'
  out : OutR K mg lent out H' W
end
/-- the promise: what the evaluator says -/
def spF (K : PySem.W.Frag) (mg : Str → Option Value) (n : Nat) (f : List AV → FR) : Sp := fun vs H Q E => vs.length = n ∧ ∃ (W : Addr → Prop) (as : List AV), (∀ a, W a → H a ≠ none) ∧ ArgR K mg W H as vs ∧
  match f as with
  | .ok v out => ∀ w H', PostC K mg W H (lentA as vs) v out w H' → Q w H'
  | .er x out => ∀ c d H', PostCX K mg W H (lentA as vs) x out c d H' → E c d H'
  | .stuck => False
structure FnG (P : Program) (w : World) (K : PySem.W.Frag) (mg : Str → Option Value) (base : Heap) (k : Nat) (f : Addr) (fd : FuncData) (ps : List Str) (sp : Sp) : Prop where
  run : ∀ (A : Around) (outer : List Env) (s : Shared) (H : Hp) (args : Args) (us : List Value) (vs : List V) (Q : VK) (E : XK), Room k A → A.guards = some [] → Env0 P w K mg base A outer s H → BindsTo s fd args (ps.zip us) → Vals vs us → sp vs H Q E →
    codeAny (model P w) A (.call (.ref f) args) (CR (L2.CX P w) outer P w H s Q E) s
theorem run_fnG {X : Cx} {k n : Nat} {f : Addr} {fd : FuncData} {ps ks : List Str} {sp : Sp} {g : List Value → List Value → List Value} {gV : List V → List V → List V} {Wx : L2.WX} {pins : List (Addr × Obj)} {σ : L2.St} {H : Hp} {s : Shared} {Q : VK} {us ws : List Value} {vs zs : List V}
    (F : FnG X.prog X.w X.K X.mg X.base k f fd ps sp) (hr : Room k X.A) (hg : X.A.guards = some []) (hb : KBn X.K fd ps n ks g gV) (tk : Takes X Wx)
    (I : Inv X pins σ H s) (r : Vals vs us) (rz : Vals zs ws) (l1 : vs.length = n) (l2 : zs.length = ks.length) (h : sp (gV vs zs) H Q (fun c d H' => Wx c d σ H')) : wpAny (model X.prog X.w) X.A (call (.ref f) us (ks.zip ws)) (EP X pins σ Q) X.xe s := by
  have bound := hb.to s us ws I.kIn (by rw [← r.length]; exact l1) (by rw [← rz.length]; exact l2)
  have promise := F.run X.A X.stack s H _ _ _ Q _ hr hg I.env0 bound (hb.rel r rz) h
  exact wpAny_call (codeAny_mono promise fun
    | .error e, t, out => tk e t (XE.of_call I (fun _ _ _ w => w) out)
    | .ok (.ret _), t, out => I.after out
    | .ok .next, t, out => out.elim
    | .ok .brk, t, out => out.elim
    | .ok .cont, t, out => out.elim)
/-- what a call reads of the evaluator: sf the slots as frozen, s as they were -/
def rCall (O : Ora) (K : PySem.W.Frag) (mg : Str → Option Value) (Wx : L2.WX) (f : Str) (ps : List PA) (vs : List V) (σ : L2.St) (H : Hp) (Q : VK) : Prop := ∃ W0 s sf os as, Rel K mg W0 s σ H ∧ Rel K mg W0 sf σ H ∧ OpReps K mg W0 sf σ H os vs ∧ argsOf sf (os.map RV.opd) ps = some as ∧
  match O.Φ f as with
  | .ok v out => ∃ s', outTo sf (lentOf (os.map RV.opd) ps) out = some s' ∧ ((flatR v && (lentOf (os.map RV.opd) ps).isNone) = true → ∀ w H', PostE K mg W0 s σ H v s w H' → Q w H') ∧ ((flatR v && (lentOf (os.map RV.opd) ps).isNone) = false → ∀ w H', PostE K mg W0 sf σ H v s' w H' → Q w H')
  | .er x out => ∃ s', outTo sf (lentOf (os.map RV.opd) ps) out = some s' ∧ ∀ c d H', PostX K mg W0 sf σ H x s' c d H' → Wx c d σ H'
  | .stuck => False
/-- how a def of the module stands -/
structure DefAt (T : Tabs) (O : Ora) (X : Cx) (f : Str) (m : Nat) (ks : List Str) (ps : List PA) : Prop where
  ex : ∃ (fa : Addr) (fd : FuncData) (pn : List Str) (k : Nat) (g : List Value → List Value → List Value) (gV : List V → List V → List V), X.mg f = some (.ref fa) ∧ PySem.W.keepIn X.K (.ref fa) = true ∧ FnG X.prog X.w X.K X.mg X.base k fa fd pn (spF X.K X.mg pn.length (O.Φ f)) ∧ Room k X.A ∧ KBn X.K fd pn m ks g gV ∧
    (∀ vs zs, vs.length = m → zs.length = ks.length → gV vs zs = permV ps (vs ++ zs) ∧ (gV vs zs).length = pn.length)
structure Gd (T : Tabs) (N : List Str) (O : Ora) (S : Scp) (X : Cx) (Wx : L2.WX) : Prop where
  eN : X.N = N
  nd : N.Nodup
  kind : X.env.scope.kind = .function
  sc : X.env.scope = S.sc
  fn : X.fn = S.fn
  calm : X.calm = true
  gu : X.A.guards = some []
  un : X.A.units + 200 < cLine
  loop : O.Λ = whileW
  free : ∀ x, T.free.contains x = true → X.mg x = none
  con : ∀ x, T.con.contains x = true → ∃ v u, X.mg x = some u ∧ RelV v u ∧ ∀ d, O.G x = some d → ∀ W H, Rep X.K X.mg W H d v
  call : ∀ f g m ks ps, T.sig.lookup f = some g → T.pats.contains (f, m, ks) = true → permOf g m ks = some ps → DefAt T O X f m ks ps
  tk : Takes X Wx
theorem Gd.blk {T : Tabs} {N : List Str} {O : Ora} {S : Scp} {X : Cx} {Wx : L2.WX} (G : Gd T N O S X Wx) (scope : Scope) (hk : scope.kind = .function) (s : Shared) (H : Hp) (C : Addr) (cl : List (Str × Addr)) (fp : List Addr) :
    Gd T N O ⟨relS scope S.sc, fun x => scope.names.lookup x == some .cell⟩ (X.blk s H scope (compEnvC scope cl C X.env) fp) noWx where
  eN := G.eN
  nd := G.nd
  kind := hk
  sc := by rw [← G.sc]; rfl
  fn := rfl
  calm := G.calm
  gu := G.gu
  un := G.un
  loop := G.loop
  free := G.free
  con := G.con
  call := fun f g m ks ps h1 h2 h3 => by
    obtain ⟨fa, fd, pn, k, g', gV, z⟩ := (G.call f g m ks ps h1 h2 h3).ex
    exact ⟨fa, fd, pn, k, g', gV, z⟩
  tk := fun u s' ⟨_, _, _, _, _, _, _, _, _, _, _, _, _, _, _, _, h⟩ => h

section
variable {O : Ora} {K : PySem.W.Frag} {mg : Str → Option Value} {Wx : L2.WX} {W0 : Addr → Prop} {s s' s1 sf : Ev} {σ : L2.St} {H H' H1 : Hp}
theorem frzA_ok {os : List Opd} : ∀ {ps : List PA} {s : Ev}, Rel K mg W0 s σ H → Rel K mg W0 (frzA os ps s) σ H ∧ Mv s σ H (frzA os ps s) σ H
  | [], s, R => ⟨R, .refl⟩
  | .dfl d :: r, s, R => frzA_ok (ps := r) R
  | .io k :: r, s, R => frzA_ok (ps := r) R
  | .pos k :: r, s, R => by
    unfold frzA
    split
    · split
      · rename_i o e
        obtain ⟨R1, m1⟩ := R.frz e
        obtain ⟨R2, m2⟩ := frzA_ok (os := os) (ps := r) R1
        exact ⟨R2, m1.trans m2⟩
      · exact frzA_ok (ps := r) R
    · exact frzA_ok (ps := r) R
theorem OpReps.at {os : List RV} {vs : List V} (h : OpReps K mg W0 s σ H os vs) : ∀ {k : Nat} {o : Opd}, (os.map RV.opd)[k]? = some o → ∃ v, vs[k]? = some v ∧ OpRep K mg W0 s σ H v o := by
  induction h with
  | nil => intro k o e; simp at e
  | @cons rv v rvs vs h r ih =>
    intro k o e
    cases k with
    | zero =>
      have e : some rv.opd = some o := e
      cases e
      exact ⟨v, rfl, h⟩
    | succ k => exact ih (k := k) (by simpa using e)
theorem OpReps.len {os : List RV} {vs : List V} (h : OpReps K mg W0 s σ H os vs) : os.length = vs.length := by
  induction h with
  | nil => rfl
  | cons _ _ ih => exact congrArg Nat.succ ih
theorem getV_ok {o : Opd} {d : D} {v : V} (R : Rel K mg W0 s σ H) (h : OpRep K mg W0 s σ H v o) (e : getV s o = some d) : Rep K mg (Wf W0 s σ) H d v := by
  cases o with
  | d x =>
    have e : some x = some d := e
    cases e
    exact h
  | sl i =>
    have h : σ[i]? = some (some v) := h
    unfold getV at e
    simp only at e
    split at e
    · rename_i x q
      cases e
      obtain ⟨u, h1, h2⟩ := R.val i _ q
      rw [h] at h1
      cases h1
      exact h2
    · cases e
theorem dfV_rep {d : D} {W : Addr → Prop} (h : (match d with | .none => true | .bool _ => true | .int _ => true | .str x => PyData.strOk x && decide (x.length ≤ sizeLine) | _ => false) = true) : Rep K mg W H d (dfV d) := by
  cases d with
  | none => exact .non
  | bool b => exact .bl b
  | int i => exact .int i
  | str x =>
    simp only [Bool.and_eq_true, decide_eq_true_eq] at h
    exact .str x h.1 h.2
  | _ => cases h
theorem argsOf_ok {os : List RV} {vs : List V} (R : Rel K mg W0 s σ H) (h : OpReps K mg W0 s σ H os vs) : ∀ {ps : List PA} {as : List AV}, ps.all dfOk = true → argsOf s (os.map RV.opd) ps = some as →
    ArgR K mg (Wf W0 s σ) H as (permV ps vs) ∧ (match lentOf (os.map RV.opd) ps with
      | none => lentA as (permV ps vs) = none
      | some i => ∃ p o, lentA as (permV ps vs) = some p ∧ σ[i]? = some (some (.ref p)) ∧ ownAt s i = some o)
  | [], as, _, e => by
    cases e
    exact ⟨.nil, rfl⟩
  | .pos k :: r, as, hd, e => by
    rw [List.all_cons, Bool.and_eq_true] at hd
    have e : (match ((os.map RV.opd)[k]?).bind (getV s), argsOf s (os.map RV.opd) r with
      | some d, some as => some (AV.d d :: as)
      | _, _ => none) = some as := e
    split at e
    · rename_i d as' e1 e2
      cases e
      obtain ⟨o, e3, e4⟩ := some_bind e1
      obtain ⟨v, h1, h2⟩ := h.at e3
      obtain ⟨h3, h4⟩ := argsOf_ok R h hd.2 e2
      have ev : vs.getD k .non = v := by rw [List.getD_eq_getElem?_getD, h1]; rfl
      refine ⟨?_, ?_⟩
      · show ArgR K mg _ H (.d d :: as') (vs.getD k .non :: permV r vs)
        rw [ev]
        exact .d (getV_ok R h2 e4) h3
      · show match lentOf (os.map RV.opd) r with
          | none => lentA (.d d :: as') (vs.getD k .non :: permV r vs) = none
          | some i => ∃ p o, lentA (.d d :: as') (vs.getD k .non :: permV r vs) = some p ∧ σ[i]? = some (some (.ref p)) ∧ ownAt s i = some o
        exact h4
    · cases e
  | .dfl d :: r, as, hd, e => by
    rw [List.all_cons, Bool.and_eq_true] at hd
    have e : (argsOf s (os.map RV.opd) r).map (AV.d d :: ·) = some as := e
    obtain ⟨as', e1, rfl⟩ := some_map e
    obtain ⟨h3, h4⟩ := argsOf_ok R h hd.2 e1
    exact ⟨.d (dfV_rep hd.1) h3, h4⟩
  | .io k :: r, as, hd, e => by
    rw [List.all_cons, Bool.and_eq_true] at hd
    have e : (match (os.map RV.opd)[k]?, argsOf s (os.map RV.opd) r with
      | some (.sl i), some as => (ownAt s i).map fun o => AV.io o :: as
      | _, _ => none) = some as := e
    split at e
    · rename_i i as' e1 e2
      obtain ⟨o, e3, rfl⟩ := some_map e
      obtain ⟨v, h1, h2⟩ := h.at e1
      obtain ⟨h3, h4⟩ := argsOf_ok R h hd.2 e2
      obtain ⟨p, hp, n0, ob⟩ := R.own i o e3
      have h2 : σ[i]? = some (some v) := h2
      rw [hp] at h2
      cases h2
      have ev : vs.getD k .non = .ref p := by rw [List.getD_eq_getElem?_getD, h1]; rfl
      refine ⟨?_, ?_⟩
      · show ArgR K mg _ H (.io o :: as') (vs.getD k .non :: permV r vs)
        rw [ev]
        exact .io ob (.inr ⟨i, own_is e3, hp⟩) h3
      · have el : lentOf (os.map RV.opd) (.io k :: r) = some i := by
          show (match (os.map RV.opd)[k]? with
            | some (.sl i) => some i
            | _ => none) = some i
          rw [e1]
        rw [el]
        refine ⟨p, o, ?_, hp, e3⟩
        show lentA (.io o :: as') (vs.getD k .non :: permV r vs) = some p
        rw [ev]
        rfl
    · cases e
/-- behind a call -/
theorem call_post {v : RV} {w : V} {l : Option Nat} {lent : Option Addr} {out : Option Ob} (R : Rel K mg W0 s σ H) (hl : match l with
      | none => lent = none
      | some i => ∃ p o, lent = some p ∧ σ[i]? = some (some (.ref p)) ∧ ownAt s i = some o) (e : outTo s l out = some s') (C : PostC K mg (Wf W0 s σ) H lent v out w H') : PostE K mg W0 s σ H v s' w H' := by
  obtain ⟨W2, hr, ho⟩ := C.rep
  -- what is common: a change of one object, growth of the rest
  have main : ∀ (W1 : Addr → Prop), (∀ a, W1 a → H' a ≠ none) → (∀ a, W1 a → W0 a ∨ H a = none) → (∀ a, W2 a ↔ Wf W1 s σ a) → Rel K mg W1 s' σ H' ∧ Mv s σ H s' σ H' ∧ (∀ a, OwnP s' σ a ↔ OwnP s σ a) := fun W1 t1 o1 w2 => by
    cases l with
    | none =>
      subst hl
      cases out with
      | some o => exact ho.elim
      | none =>
        cases e
        have g : ∀ a u, H a = some u → H' a = some u := fun a u h => C.keep a u h (fun z => by cases z)
        exact ⟨R.grow g t1 o1, .grow g, fun a => Iff.rfl⟩
    | some i =>
      obtain ⟨p, o0, rfl, hp, h0⟩ := hl
      cases out with
      | none => cases e
      | some o =>
        have e : some (setOb s i o) = some s' := e
        cases e
        have hi := (setOb_at (o := o) h0).2.2.2
        have hop : OwnP s σ p := ⟨i, hi, hp⟩
        have own : ∀ a, OwnP (setOb s i o) σ a ↔ OwnP s σ a := fun a => ⟨fun ⟨j, h1, h2⟩ => ⟨j, by rw [setOb_own h0] at h1; exact h1, h2⟩, fun ⟨j, h1, h2⟩ => ⟨j, by rw [setOb_own h0]; exact h1, h2⟩⟩
        have k : Keep (Wf W0 s σ) H (Wf W1 (setOb s i o) σ) H' := ⟨fun a u h n => C.keep a u h fun z => n (by cases z; exact .inr hop), fun a z => z.elim (fun z => (o1 a z).imp .inl id) fun z => .inl (.inr ((own a).mp z))⟩
        refine ⟨⟨by rw [setOb_len]; exact R.len, t1, fun j d hj => ?_, fun j o2 hj => ?_, fun j m a h1 h2 => ?_⟩, ⟨fun a u h n => C.keep a u h fun z => n (by cases z; exact hop), fun a z => .inl ((own a).mp z), C.trk, fun j hj => ?_⟩, own⟩
        · by_cases q : i = j
          · subst q
            have := (setOb_at (o := o) h0).2.1
            rw [hj] at this
            cases this
          · rw [setOb_ne q] at hj
            obtain ⟨v, h1, h2⟩ := R.val j d hj
            exact ⟨v, h1, h2.mv k⟩
        · by_cases q : i = j
          · subst q
            rw [(setOb_at h0).1] at hj
            cases hj
            have ob : ObAt K mg W2 H' p o := ho
            obtain ⟨p', h1, h2, h3⟩ := R.own i o0 h0
            rw [hp] at h1
            cases h1
            refine ⟨p, hp, fun z => (o1 p z).elim h2 fun z => h3.trk z, ob.mv ⟨fun _ _ h _ => h, fun a z => .inl ((w2 a).mpr (z.imp id (own a).mp))⟩ fun _ h => h⟩
          · have e2 : ownAt s j = some o2 := by
              unfold ownAt at hj ⊢
              rw [setOb_ne q] at hj
              exact hj
            obtain ⟨a, h1, h2, h3⟩ := R.own j o2 e2
            have ne : a ≠ p := fun z => q (R.dis i j p hi (own_is e2) hp (z ▸ h1))
            exact ⟨a, h1, fun z => (o1 a z).elim h2 fun z => h3.trk z, h3.mv k fun u' e' => C.keep a u' e' fun z => ne (by cases z; rfl)⟩
        · rw [setOb_own h0] at h1 h2
          exact R.dis j m a h1 h2
        · by_cases q : i = j
          · subst q
            exact ⟨(setOb_at h0).2.2.1.trans hj, rfl⟩
          · rw [setOb_ne q]
            exact ⟨hj, rfl⟩
  cases v with
  | d d =>
    obtain ⟨rfl, r⟩ := hr
    obtain ⟨R', m, own⟩ := main W0 (fun a z => C.trk a (R.out a z)) (fun a z => .inl z) (fun a => Iff.rfl)
    exact ⟨m, R', r.mv ⟨fun _ _ h _ => h, fun a z => .inl (z.imp id (own a).mp)⟩⟩
  | own o =>
    obtain ⟨q, rfl, nq, rfl, ob⟩ := hr
    have n0 : ¬ W0 q := fun z => R.out q z nq
    have e2 : ∀ a, plus (Wf W0 s σ) q a ↔ Wf (plus W0 q) s σ a := fun a => ⟨fun z => z.elim (fun z => z.imp .inl id) fun z => .inl (.inr z), fun z => z.elim (fun z => z.imp .inl id) fun z => .inl (.inr z)⟩
    obtain ⟨R', m, own⟩ := main (plus W0 q) (fun a z => z.elim (fun z => C.trk a (R.out a z)) fun z => z ▸ ob.trk) (fun a z => z.imp id fun (z : a = q) => z ▸ nq) e2
    refine ⟨m, q, rfl, nq, n0, fun z => (R'.ownTrk z).2 (.inr rfl), R', ob.mv ⟨fun _ _ h _ => h, fun a z => .inl ((e2 a).mpr (z.imp id (own a).mp))⟩ fun _ h => h⟩
  | sl i => exact hr.elim
theorem call_postX {x : Xn} {c : Value} {d : Option Addr} {l : Option Nat} {lent : Option Addr} {out : Option Ob} (R : Rel K mg W0 s σ H) (hl : match l with
      | none => lent = none
      | some i => ∃ p o, lent = some p ∧ σ[i]? = some (some (.ref p)) ∧ ownAt s i = some o) (e : outTo s l out = some s') (C : PostCX K mg (Wf W0 s σ) H lent x out c d H') : PostX K mg W0 s σ H x s' c d H' := by
  have P := call_post (v := .d .none) (w := .non) R hl e ⟨C.keep, C.trk, _, ⟨rfl, .non⟩, C.out⟩
  exact ⟨P.mv, P.rel, C.xn⟩
theorem flat_rep {v : RV} {w : V} {W W2 : Addr → Prop} {H0 H2 : Hp} (hf : flatR v = true) (r : ResR K mg W H v w H' W2) : ∃ d, v = .d d ∧ ∀ W H, Rep K mg W H d w := by
  unfold flatR at hf
  split at hf
  · cases r.2; exact ⟨_, rfl, fun _ _ => .non⟩
  · cases r.2; exact ⟨_, rfl, fun _ _ => .bl _⟩
  · cases r.2; exact ⟨_, rfl, fun _ _ => .int _⟩
  · obtain ⟨_, r⟩ := r
    cases r with
    | str _ h l => exact ⟨_, rfl, fun _ _ => .str _ h l⟩
  · cases hf
theorem rCall_sp {f : Str} {ps : List PA} {vs : List V} {Q : VK} {n : Nat} (hd : ps.all dfOk = true) (hn : (permV ps vs).length = n) (h : rCall O K mg Wx f ps vs σ H Q) : spF K mg n (O.Φ f) (permV ps vs) H Q (fun c d H' => Wx c d σ H') := by
  obtain ⟨W0, s, sf, os, as, R, Rf, ops, ea, h⟩ := h
  obtain ⟨h1, h2⟩ := argsOf_ok Rf ops hd ea
  refine ⟨hn, _, as, wf_trk Rf, h1, ?_⟩
  split at h
  · rename_i v out eΦ
    obtain ⟨s', eo, q1, q2⟩ := h
    intro w H' C
    by_cases hf : (flatR v && (lentOf (os.map RV.opd) ps).isNone) = true
    · refine q1 hf w H' ?_
      simp only [Bool.and_eq_true, Option.isNone_iff_eq_none] at hf
      rw [hf.2] at h2
      rw [h2] at C
      obtain ⟨W2, r, _⟩ := C.rep
      obtain ⟨d, rfl, rd⟩ := flat_rep (H0 := H) (H2 := H) hf.1 r
      have g : ∀ a u, H a = some u → H' a = some u := fun a u h => C.keep a u h (fun z => by cases z)
      exact ⟨.grow g, R.grow g (fun a z => C.trk a (R.out a z)) (fun a z => .inl z), rd _ _⟩
    · exact q2 (by cases z : (flatR v && (lentOf (os.map RV.opd) ps).isNone) with | true => exact absurd z hf | false => rfl) w H' (call_post Rf h2 eo C)
  · rename_i x out eΦ
    obtain ⟨s', eo, q⟩ := h
    exact fun c d H' C => q c d H' (call_postX Rf h2 eo C)
  · exact h.elim
theorem evs_app : ∀ {es fs : CEs} {s : Ev}, evs O (appE es fs) s = (evs O es s).bind fun a s => (evs O fs s).bind fun b s => .ok (a ++ b) s
  | .nil, fs, s => by
    show evs O fs s = (evs O fs s).bind fun b s => Rs.ok ([] ++ b) s
    cases evs O fs s <;> rfl
  | .cons e r, fs, s => by
    show ((ev O e s).bind fun x s => (evs O (appE r fs) s).bind fun vs s => Rs.ok (x :: vs) s) = (((ev O e s).bind fun x s => (evs O r s).bind fun vs s => Rs.ok (x :: vs) s).bind fun a s => (evs O fs s).bind fun b s => Rs.ok (a ++ b) s)
    cases ev O e s with
    | er x s1 => rfl
    | stuck => rfl
    | ok x s1 =>
      show ((evs O (appE r fs) s1).bind fun vs s => Rs.ok (x :: vs) s) = (((evs O r s1).bind fun vs s => Rs.ok (x :: vs) s).bind fun a s => (evs O fs s).bind fun b s => Rs.ok (a ++ b) s)
      rw [evs_app]
      cases evs O r s1 with
      | er y s2 => rfl
      | stuck => rfl
      | ok vs s2 =>
        show ((evs O fs s2).bind fun b s => Rs.ok (vs ++ b) s).bind (fun vs s => Rs.ok (x :: vs) s) = (evs O fs s2).bind fun b s => Rs.ok (x :: vs ++ b) s
        cases evs O fs s2 <;> rfl
theorem OpReps.app {as bs : List RV} {vs zs : List V} (h : OpReps K mg W0 s σ H as vs) (q : OpReps K mg W0 s σ H bs zs) : OpReps K mg W0 s σ H (as ++ bs) (vs ++ zs) := by
  induction h with
  | nil => exact q
  | cons h _ ih => exact .cons h ih
theorem wpG_len : ∀ {es : CEs} {s : Ev} {P : List RV → Ev → Prop} {E : Xn → Ev → Prop}, wpG (evs O es s) P E → wpG (evs O es s) (fun rvs s' => P rvs s' ∧ rvs.length = lenE es) E
  | .nil, s, P, E, h => ⟨h, rfl⟩
  | .cons e r, s, P, E, h => by
    have h : wpG ((ev O e s).bind fun x s => (evs O r s).bind fun vs s => Rs.ok (x :: vs) s) P E := h
    show wpG ((ev O e s).bind fun x s => (evs O r s).bind fun vs s => Rs.ok (x :: vs) s) _ E
    exact wpG_bind.mpr ((wpG_bind.mp h).mono (fun x s1 h1 => wpG_bind.mpr ((wpG_len (wpG_bind.mp h1)).mono (fun vs s2 h2 => ⟨h2.1, congrArg Nat.succ h2.2⟩) fun _ _ h => h)) fun _ _ h => h)
/-- a call's wish -/
theorem cs_call {f : Str} {es fs : CEs} {ps : List PA} {Q : VK} (h : tE O K mg Wx (.call f (appE es fs) ps) σ H Q) : tEs O K mg Wx es σ H fun vs H1 => tEs O K mg Wx fs σ H1 fun zs H2 => vs.length = lenE es ∧ zs.length = lenE fs ∧ rCall O K mg Wx f ps (vs ++ zs) σ H2 Q := by
  obtain ⟨W0, s, R, h⟩ := h
  have h := wpG_bind.mp h
  rw [evs_app] at h
  refine tEs_of R (wpG_len (wpG_bind.mp h)) (fun as s1 vs H1 P1 ⟨h1, la⟩ => tEs_of P1.rel (wpG_len (wpG_bind.mp h1)) (fun bs s2 zs H2 P2 ⟨h2, lb⟩ => ⟨P1.ops.len ▸ la, P2.ops.len ▸ lb, ?_⟩) (xpre P1.mv EW.id)) EW.id
  have ops := (P1.ops.mv P2.mv).app P2.ops
  have m := P1.mv.trans P2.mv
  obtain ⟨Rf, mf⟩ := frzA_ok (os := (as ++ bs).map RV.opd) (ps := ps) P2.rel
  have h2 : wpG (match argsOf (frzA ((as ++ bs).map RV.opd) ps s2) ((as ++ bs).map RV.opd) ps with
    | some as' => match O.Φ f as' with
      | .ok v out => match outTo (frzA ((as ++ bs).map RV.opd) ps s2) (lentOf ((as ++ bs).map RV.opd) ps) out with
        | some s' => if flatR v && (lentOf ((as ++ bs).map RV.opd) ps).isNone then Rs.ok v s2 else .ok v s'
        | none => .stuck
      | .er x out => match outTo (frzA ((as ++ bs).map RV.opd) ps s2) (lentOf ((as ++ bs).map RV.opd) ps) out with
        | some s' => .er x s'
        | none => .stuck
      | .stuck => .stuck
    | none => .stuck) _ _ := h2
  split at h2
  · rename_i as' ea
    refine ⟨W0, s2, frzA ((as ++ bs).map RV.opd) ps s2, as ++ bs, as', P2.rel, Rf, ops.mv mf, ea, ?_⟩
    split at h2
    · rename_i v out eΦ
      split at h2
      · rename_i s' eo
        refine ⟨s', eo, fun hf w H' P => ?_, fun hf w H' P => ?_⟩
        · rw [if_pos hf] at h2
          exact h2 w H' (P.pre m)
        · rw [if_neg (by rw [hf]; exact Bool.false_ne_true)] at h2
          exact h2 w H' (P.pre (m.trans mf))
      · exact h2.elim
    · rename_i x out eΦ
      split at h2
      · rename_i s' eo
        exact ⟨s', eo, fun c d H' P => h2 c d H' (P.pre (m.trans mf))⟩
      · exact h2.elim
    · exact h2.elim
  · exact h2.elim
end
end GS

/-! GS14: a translated expression does what its core says. -/
namespace GS
open PySem PySem.Spec PyProof.Rows L2

section
variable {T : Tabs} {N : List Str} {O : Ora}
theorem tr_noStar {n : Nat} {S : Scp} {e : Expr} {c : GS.CE} (h : trE T N n S e = some c) : noStar e := by
  cases n with
  | zero => cases h
  | succ n => cases e <;> first | (intro es env; rfl) | cases h
theorem trEs_noStar : ∀ {n : Nat} {S : Scp} {es : List Expr} {c : CEs}, trEs T N n S es = some c → ∀ e ∈ es, noStar e
  | 0, _, _, _, h => by cases h
  | n + 1, S, [], _, h => fun e he => by cases he
  | n + 1, S, a :: r, c, h => by
    unfold trEs at h
    split at h
    · rename_i c1 c2 e1 e2
      intro e he
      rcases List.mem_cons.mp he with rfl | he
      · exact tr_noStar e1
      · exact trEs_noStar e2 e he
    · cases h
theorem tr_noSet {n : Nat} {S : Scp} {e : Expr} {c : GS.CE} (h : trE T N n S e = some c) (op : CmpOp) : behindInMarks op e = false := by
  cases n with
  | zero => cases h
  | succ n => cases e <;> first | rfl | cases h
theorem tr_ix {n : Nat} {S : Scp} {e : Expr} {c : GS.CE} (h : trE T N n S e = some c) : PlainIx e := by
  cases n with
  | zero => cases h
  | succ n => cases e <;> first | (intro o i; rfl) | cases h
theorem tr_noFold {n : Nat} {S : Scp} {e : Expr} {c : GS.CE} (h : trE T N n S e = some c) (env : Env) : ∀ x, foldedSetIterable e env x = pure x := by
  cases n with
  | zero => cases h
  | succ n => cases e <;> first | (intro x; rfl) | cases h
theorem base_plain {o : Expr} {env : Env} {m : Str} (h : noCall0 o = true) : attributeBase o m env (eval o env) = eval o env := by
  cases o <;> first | rfl | skip
  rename_i f args kws pos
  cases args with
  | nil => cases kws with
    | nil => cases h
    | cons _ _ => cases f <;> rfl
  | cons _ _ => cases f <;> rfl
/-! ### names -/
variable {S : Scp} {X : Cx} {Wx : L2.WX}
theorem ix_of {x : Str} {i : Nat} (h : N.idxOf? x = some i) : N[i]? = some x := by
  unfold List.idxOf? at h
  rw [List.findIdx?_eq_some_iff_getElem] at h
  obtain ⟨h1, h2, _⟩ := h
  rw [List.getElem?_eq_getElem h1]
  congr 1
  exact eq_of_beq h2
theorem gl_of (G : Gd T N O S X Wx) {x : Str} (h : glB S.sc x = true) : Gl X x := by
  have e : S.sc.names.lookup x = some .globalImplicit := by
    unfold glB at h
    cases q : S.sc.names.lookup x with
    | none => rw [q] at h; cases h
    | some k => rw [q] at h; cases k <;> first | rfl | cases h
  show X.env.scope.names.lookup x = _
  rw [G.sc]
  exact e
theorem vis_of (G : Gd T N O S X Wx) {x : Str} (h : visB S.sc x = true) : Vis X.env.scope x := by
  unfold Vis
  rw [G.sc]
  unfold visB at h
  split at h <;> first | (rename_i e; exact .inl e) | (rename_i e; exact .inr (.inl e)) | (rename_i e; exact .inr (.inr e)) | cases h
theorem loc_of (G : Gd T N O S X Wx) {x : Str} (h : locB S x = true) : L2.Loc X.env.scope x ∧ (X.fn x = true ∨ X.env.scope.names.lookup x = some .local) := by
  unfold L2.Loc
  rw [G.sc, G.fn]
  unfold locB at h
  split at h
  · rename_i e; exact ⟨.inl e, .inr e⟩
  · rename_i e; exact ⟨.inr e, .inl h⟩
  · cases h
structure PlainName (x : Str) : Prop where
  db : (x == ("__debug__" : Str)) = false
  cd : (x == ("__classdict__" : Str)) = false
  nm : x ≠ "__name__"
theorem plain_of {x : Str} (h : plainN x = true) : PlainName x := by
  unfold plainN at h
  simp only [Bool.and_eq_true, beq_eq_false_iff_ne] at h
  have g : ∀ {b : Bool}, (b == false) = true → b = false := fun {b} h => by cases b <;> first | rfl | cases h
  exact ⟨g h.1.1, g h.1.2, fun e => by
    have z := g h.2
    rw [e] at z
    revert z
    decide⟩
theorem slot_ok (G : Gd T N O S X Wx) {x : Str} {i : Nat} (h : slotOf N S x = some i) : X.N[i]? = some x ∧ Vis X.env.scope x ∧ PlainName x := by
  unfold slotOf at h
  split at h
  · rename_i hc
    rw [Bool.and_eq_true] at hc
    rw [G.eN]
    exact ⟨ix_of h, vis_of G hc.1, plain_of hc.2⟩
  · cases h
theorem tgt_ok (G : Gd T N O S X Wx) {x : Str} {i : Nat} (h : tgtOf N S x = some i) : X.N[i]? = some x ∧ L2.Loc X.env.scope x ∧ (X.fn x = true ∨ X.env.scope.names.lookup x = some .local) ∧ PlainName x := by
  unfold tgtOf at h
  split at h
  · rename_i hc
    rw [Bool.and_eq_true] at hc
    obtain ⟨h1, h2⟩ := loc_of G hc.1
    rw [G.eN]
    exact ⟨ix_of h, h1, h2, plain_of hc.2⟩
  · cases h
theorem pe_slot (G : Gd T N O S X Wx) {x : Str} {i : Nat} {p : Pos} (h : slotOf N S x = some i) : L2.PE X (.Name x p) (tVar i) := by
  obtain ⟨h1, h2, h3⟩ := slot_ok G h
  exact pe_var h1 h2 h3.db h3.cd
/-! ### targets -/
theorem each_ok : ∀ {es : List Expr} {is : List Nat} (env : Env), trTgts N S es = some is → (assignEach es env).length = is.length ∧ (assignEach es env).findIdx? (·.1) = none
  | [], is, env, h => by cases h; exact ⟨rfl, rfl⟩
  | e :: es, is, env, h => by
    cases e with
    | Name x p =>
      have h : (match tgtOf N S x, trTgts N S es with
        | some i, some is => some (i :: is)
        | _, _ => none) = some is := h
      split at h
      · rename_i i js e1 e2
        cases h
        obtain ⟨h1, h2⟩ := each_ok env e2
        refine ⟨congrArg Nat.succ h1, ?_⟩
        show (((false, assign (.Name x p) env) :: assignEach es env).findIdx? (·.1)) = none
        rw [List.findIdx?_cons]
        simp only [h2]
        rfl
      · cases h
    | _ => cases h
theorem pgs_ok (G : Gd T N O S X Wx) : ∀ {es : List Expr} {is : List Nat}, trTgts N S es = some is → L2.PGs X es (tGs X.K X.mg is)
  | [], is, h => by
    cases h
    exact ⟨fun pins s σ H vs us Q I r q => pgs_nil.run pins s σ H vs us Q I r (cs_gnil q)⟩
  | e :: es, is, h => by
    cases e with
    | Name x p =>
      have h : (match tgtOf N S x, trTgts N S es with
        | some i, some is => some (i :: is)
        | _, _ => none) = some is := h
      split at h
      · rename_i i js e1 e2
        cases h
        obtain ⟨h1, h2, h3, h4⟩ := tgt_ok G e1
        have hg : L2.PG X (.Name x p) (gName i) := pg_name (by rw [G.eN]; exact G.nd) h1 h2 h3
        exact ⟨fun pins s σ H vs us Q I r q => (pgs_cons hg (pgs_ok G e2)).run pins s σ H vs us Q I r (cs_gcons q)⟩
      · cases h
    | _ => cases h
theorem pg_ok (G : Gd T N O S X Wx) {e : Expr} {tg : CT} (h : trTgt N S e = some tg) : L2.PG X e (tG X.K X.mg tg) := by
  cases e with
  | Name x p =>
    have h : (tgtOf N S x).map CT.nm = some tg := h
    obtain ⟨i, e1, rfl⟩ := some_map h
    obtain ⟨h1, h2, h3, h4⟩ := tgt_ok G e1
    have hg : L2.PG X (.Name x p) (gName i) := pg_name (by rw [G.eN]; exact G.nd) h1 h2 h3
    exact ⟨fun pins s σ H v u Q I r q => hg.run pins s σ H v u Q I r (cs_gname q)⟩
  | Tuple es k p =>
    have h : (trTgts N S es).map CT.tup = some tg := h
    obtain ⟨is, e1, rfl⟩ := some_map h
    obtain ⟨h1, h2⟩ := each_ok X.env e1
    have hg : L2.PG X (.Tuple es k p) (gTup X.K is.length (tGs X.K X.mg is)) := pg_tup G.calm (pgs_ok G e1) h1 h2
    exact ⟨fun pins s σ H v u Q I r q => hg.run pins s σ H v u Q I r (cs_gtup q)⟩
  | _ => cases h
/-! ### calls -/
theorem tr_len : ∀ {n : Nat} {S : Scp} {es : List Expr} {c : CEs}, trEs T N n S es = some c → lenE c = es.length
  | 0, _, _, _, h => by cases h
  | n + 1, S, [], _, h => by cases h; rfl
  | n + 1, S, a :: r, c, h => by
    unfold trEs at h
    split at h
    · rename_i c1 c2 e1 e2
      cases h
      exact congrArg Nat.succ (tr_len e2)
    · cases h
theorem trK_len : ∀ {n : Nat} {S : Scp} {es : List Keyword} {c : CEs}, trKws T N n S es = some c → lenE c = es.length
  | 0, _, _, _, h => by cases h
  | n + 1, S, [], _, h => by cases h; rfl
  | n + 1, S, ⟨x, a, p⟩ :: r, c, h => by
    unfold trKws at h
    split at h
    · rename_i c1 c2 e1 e2
      cases h
      exact congrArg Nat.succ (trK_len e2)
    · cases h
theorem kw_len : ∀ {kws : List Keyword} {ks : List Str}, kwNames kws = some ks → ks.length = kws.length
  | [], ks, h => by cases h; rfl
  | ⟨none, e, p⟩ :: r, ks, h => by cases h
  | ⟨some x, e, p⟩ :: r, ks, h => by
    have h : (kwNames r).map (x :: ·) = some ks := h
    obtain ⟨k, e1, rfl⟩ := some_map h
    exact congrArg Nat.succ (kw_len e1)
theorem pe_callG {f : Str} {m : Nat} {ks : List Str} {ps : List GS.PA} {e : Expr} {es : List Expr} {kws : List Keyword} {p pos : Pos} {ces cfs : CEs} (G : Gd T N O S X Wx) (hg : Gl X f) (pn : PlainName f) (da : DefAt T O X f m ks ps) (hd : ps.all dfOk = true)
    (hm : lenE ces = m) (hm2 : lenE cfs = ks.length) (ha : L2.PA X (e :: es) (tEs O X.K X.mg Wx ces)) (hk : L2.PK X kws (tEs O X.K X.mg Wx cfs)) (hs : ∀ a ∈ e :: es, noStar a) (hks : kwNames kws = some ks) :
    L2.PE X (.Call (.Name f p) (e :: es) kws pos) (tE O X.K X.mg Wx (.call f (appE ces cfs) ps)) := by
  obtain ⟨fa, fd, pns, k, g, gV, h1, h2, F, hr, hb, hV⟩ := da.ex
  obtain ⟨k1, k2, k3⟩ := kwNames_ok X.env pos hks
  refine ⟨fun pins s σ H Q I h => ?_⟩
  have h := cs_call h
  refine wpAny_Call_Name_kw (ld_glob I hg h1 ?_ pn.db)
  have hpl : ((backTo pos (starEach (e :: es) X.env)).any (·.1) || (backToKw pos (keywordEach kws X.env)).any (·.1.isNone)) = false := by rw [(stars_plain hs X.env pos).1, k2]; rfl
  refine PySem.W.callWith_KW (h₀ := X.base) I.ok.mod.kin h2 k1 (thn (ha.run pos pins s σ H _ I h) fun us s1 ⟨vs, H1, I1, r, q⟩ => ?_) hpl (hs e List.mem_cons_self es X.env)
  refine thn (hk.run pos pins s1 σ H1 _ I1 q) fun ws s2 ⟨zs, H2, I2, rz, l1, l2, q2⟩ => ⟨I2.kIn, ?_⟩
  rw [k3]
  obtain ⟨v1, v2⟩ := hV vs zs (l1.trans hm) (l2.trans hm2)
  have q3 := rCall_sp hd (v1 ▸ v2) q2
  rw [← v1] at q3
  exact run_fnG F hr G.gu hb G.tk I2 r rz (l1.trans hm) (l2.trans hm2) q3
theorem pe_callG0 {f : Str} {ps : List GS.PA} {p pos : Pos} (G : Gd T N O S X Wx) (hg : Gl X f) (pn : PlainName f) (da : DefAt T O X f 0 [] ps) (hd : ps.all dfOk = true) :
    L2.PE X (.Call (.Name f p) [] [] pos) (tE O X.K X.mg Wx (.call f (appE .nil .nil) ps)) := by
  obtain ⟨fa, fd, pns, k, g, gV, h1, h2, F, hr, hb, hV⟩ := da.ex
  refine ⟨fun pins s σ H Q I h => ?_⟩
  obtain ⟨W0, s0, R, h⟩ := cs_call h
  obtain ⟨W1, s1, R1, h⟩ := h [] H ⟨.refl, R, .nil⟩
  obtain ⟨_, _, q2⟩ := h [] H ⟨.refl, R1, .nil⟩
  refine wpAny_Call_Name_kw (ld_glob I hg h1 ?_ pn.db)
  refine PySem.W.callWith_K0 I.kIn h2 ?_
  obtain ⟨v1, v2⟩ := hV [] [] rfl rfl
  have q3 := rCall_sp hd (v1 ▸ v2) q2
  rw [← v1] at q3
  exact run_fnG (ks := []) (us := []) (ws := []) F hr G.gu hb G.tk I .nil .nil rfl rfl q3
end
end GS

/-! GS15: expressions, by induction on the fuel. -/
namespace GS
open PySem PySem.Spec PyProof.Rows L2

theorem nameIn_ok {x : Str} {l : List String} {f : String} (h : nameIn x l = some f) : f ∈ l ∧ x = Str.ofString f := ⟨List.mem_of_find?_eq_some h, eq_of_beq (by simpa using List.find?_some h)⟩
theorem bi_boot : ∀ f ∈ biNames, bootBuiltins (Str.ofString f) = some (biV f) := by decide +kernel
theorem ty_boot : ∀ f ∈ tyNames, bootBuiltins (Str.ofString f) = some (.type f) := by decide +kernel
theorem isi_boot : bootBuiltins (Str.ofString "isinstance") = some (.builtin "isinstance") := by decide +kernel
theorem biV_shape (f : String) : (∃ T, biV f = .type T) ∨ ∃ id, biV f = .builtin id := by
  unfold biV
  split <;> first | exact .inl ⟨_, rfl⟩ | exact .inr ⟨_, rfl⟩
structure MtFacts (m : String) : Prop where
  pa : PlainAttrs (mtT m)
  slot : PySem.Slot (mtT m) (Str.ofString m) (mtT m ++ "." ++ m)
  ty : typeOf (.builtin (mtT m ++ "." ++ m)) = pure (.type "method_descriptor")
theorem mt_facts : ∀ m ∈ methNames, MtFacts m := by
  intro m h
  simp only [methNames, List.mem_cons, List.not_mem_nil, or_false] at h
  rcases h with rfl | rfl | rfl | rfl | rfl | rfl | rfl
  · exact ⟨F.plainAttrs_str, F.slot_str_startswith, F.type_str_startswith⟩
  · exact ⟨F.plainAttrs_str, F.slot_str_join, F.type_str_join⟩
  · exact ⟨F.plainAttrs_dict, F.slot_dict_get, F.type_dict_get⟩
  · exact ⟨F.plainAttrs_str, F.slot_str_index, F.type_str_index⟩
  · exact ⟨F.plainAttrs_str, F.slot_str_endswith, F.type_str_endswith⟩
  · exact ⟨F.plainAttrs_str, F.slot_str_find, F.type_str_find⟩
  · exact ⟨F.plainAttrs_str, F.slot_str_count, F.type_str_count⟩
structure MuFacts (m : String) : Prop where
  slot : PySem.Slot "list" (Str.ofString m) ("list." ++ m)
  ty : typeOf (.builtin ("list." ++ m)) = pure (.type "method_descriptor")
theorem mu_facts : ∀ m ∈ mutNames, MuFacts m := by
  intro m h
  simp only [mutNames, List.mem_cons, List.not_mem_nil, or_false] at h
  rcases h with rfl | rfl
  · exact ⟨F.slot_list_append, F.type_list_append⟩
  · exact ⟨F.slot_list_pop, F.type_list_pop⟩
section
variable {T : Tabs} {N : List Str} {O : Ora}
structure TrOk (T : Tabs) (N : List Str) (O : Ora) (n : Nat) : Prop where
  e : ∀ {S : Scp} {X : Cx} {Wx : L2.WX} {e : Expr} {c : GS.CE}, Gd T N O S X Wx → trE T N n S e = some c → L2.PE X e (tE O X.K X.mg Wx c)
  t : ∀ {S : Scp} {X : Cx} {Wx : L2.WX} {e : Expr} {c : GS.CE}, Gd T N O S X Wx → trE T N n S e = some c → L2.PT X e (tT O X.K X.mg Wx c)
  w : ∀ {S : Scp} {X : Cx} {Wx : L2.WX} {o : BoolOp} {es : List Expr} {p : Pos} {c : GS.CE}, Gd T N O S X Wx → trE T N n S (.BoolOp o es p) = some c → L2.PW X (.BoolOp o es p) (tT O X.K X.mg Wx c)
  es : ∀ {S : Scp} {X : Cx} {Wx : L2.WX} {es : List Expr} {c : CEs}, Gd T N O S X Wx → trEs T N n S es = some c → L2.PA X es (tEs O X.K X.mg Wx c)
  ks : ∀ {S : Scp} {X : Cx} {Wx : L2.WX} {es : List Keyword} {c : CEs}, Gd T N O S X Wx → trKws T N n S es = some c → L2.PK X es (tEs O X.K X.mg Wx c)
  o : ∀ {S : Scp} {X : Cx} {Wx : L2.WX} {e : Option Expr} {c : CEs}, Gd T N O S X Wx → trO T N n S e = some c → L2.PO X e (tO O X.K X.mg Wx c)
  i : ∀ {S : Scp} {X : Cx} {Wx : L2.WX} {e : Expr} {c : CI}, Gd T N O S X Wx → trI T N n S e = some c → (∀ tg, L2.PI X tg e (tI O X.K X.mg Wx c)) ∧ ∀ x, foldedSetIterable e X.env x = pure x
variable {S : Scp} {X : Cx} {Wx : L2.WX} {n : Nat}
theorem tr_con (G : Gd T N O S X Wx) {k : Const} {j : Nat} {p : Pos} {c : GS.CE} (h : (conD k).map GS.CE.con = some c) : L2.PE X (.Constant k j p) (tE O X.K X.mg Wx c) := by
  obtain ⟨d, e, rfl⟩ := some_map h
  unfold conD at e
  split at e
  · cases e; exact PE.imp pe_non fun σ H Q q => cs_con (fun _ _ => .non) q
  · cases e; exact PE.imp pe_bl fun σ H Q q => cs_con (fun _ _ => .bl _) q
  · cases e; exact PE.imp pe_int fun σ H Q q => cs_con (fun _ _ => .int _) q
  · split at e
    · rename_i hc
      simp only [Bool.and_eq_true, decide_eq_true_eq] at hc
      cases e
      exact PE.imp pe_str fun σ H Q q => cs_con (fun _ _ => .str _ hc.1 hc.2) q
    · cases e
  · cases e
theorem tr_name (G : Gd T N O S X Wx) {x : Str} {p : Pos} {c : GS.CE} (h : (match slotOf N S x with
      | some i => some (.var i)
      | none => if glB S.sc x && plainN x && T.con.contains x then some (.glob x) else none) = some c) : L2.PE X (.Name x p) (tE O X.K X.mg Wx c) := by
  split at h
  · rename_i i e
    cases h
    exact PE.imp (pe_slot G e) fun σ H Q q => cs_var q
  · split at h
    · rename_i hc
      simp only [Bool.and_eq_true] at hc
      cases h
      obtain ⟨v, u, h1, h2, h3⟩ := G.con x hc.2
      exact PE.imp (pe_glob (gl_of G hc.1.1) h1 h2 (plain_of hc.1.2).db) fun σ H Q q => cs_glob h3 q
    · cases h
theorem pe_negG {a : Expr} {ta : TE} {p : Pos} (ha : L2.PE X a ta) : L2.PE X (.UnaryOp .USub a p) (tNeg ta) := pe_un un_neg ha
theorem pt_iteG {c a b : Expr} {tc ta tb : TT} {p : Pos} (hc : L2.PT X c tc) (ha : L2.PT X a ta) (hb : L2.PT X b tb) : L2.PT X (.IfExp c a b p) (fun σ H Q => tc σ H fun k H1 => if k = true then ta σ H1 Q else tb σ H1 Q) := by
  refine ⟨fun pins s σ H Q I h => ?_⟩
  show wpAny _ _ (do if ← isTrue c X.env (eval c X.env) then isTrue a X.env (eval a X.env) else isTrue b X.env (eval b X.env)) _ _ _
  refine wpAny_bind (thn (hc.run pins s σ H _ I h) fun k s1 ⟨H1, I1, q1⟩ => ?_)
  cases k with
  | true => exact ha.run pins s1 σ H1 Q I1 q1
  | false => exact hb.run pins s1 σ H1 Q I1 q1
/-- a built-in's call -/
theorem pe_biG (G : Gd T N O S X Wx) {f : String} {x : Str} {p pos : Pos} {e : Expr} {es : List Expr} {c : CEs} (hf : nameIn x biNames = some f) (hg : Gl X x) (pn : PlainName x) (hm : X.mg x = none) (ha : L2.PA X (e :: es) (tEs O X.K X.mg Wx c)) (hs : ∀ a ∈ e :: es, noStar a) :
    L2.PE X (.Call (.Name x p) (e :: es) [] pos) (tE O X.K X.mg Wx (.bi f c)) := by
  obtain ⟨h1, h2⟩ := nameIn_ok hf
  have hv : bootBuiltins x = some (biV f) := by rw [h2]; exact bi_boot f h1
  have hc := call_bi (X := X) G.calm G.gu (by have := G.un; omega) f
  have hpl : (backTo pos (starEach es X.env)).any (·.1) = false := (stars_plain (fun a h => hs a (List.mem_cons_of_mem _ h)) X.env pos).1
  rcases biV_shape f with ⟨t, e⟩ | ⟨id, e⟩
  · rw [e] at hv hc
    exact PE.imp (pe_callTy hc hg hm hv ha pn.nm pn.db (hs _ List.mem_cons_self es X.env) hpl) fun σ H Q q => cs_bi q
  · rw [e] at hv hc
    exact PE.imp (pe_callB hc hg hm hv ha pn.nm pn.db (hs _ List.mem_cons_self es X.env) hpl) fun σ H Q q => cs_bi q
theorem pe_isiG (G : Gd T N O S X Wx) {t : String} {x y : Str} {p pos py : Pos} {e : Expr} {c : GS.CE} (hx : x = Str.ofString "isinstance") (hf : nameIn y tyNames = some t) (hg : Gl X x) (pn : PlainName x) (hm : X.mg x = none) (hgy : Gl X y) (pny : PlainName y) (hmy : X.mg y = none)
    (ha : L2.PE X e (tE O X.K X.mg Wx c)) (hs : noStar e) : L2.PE X (.Call (.Name x p) [e, .Name y py] [] pos) (tE O X.K X.mg Wx (.isi c t)) := by
  obtain ⟨h1, h2⟩ := nameIn_ok hf
  have hv : bootBuiltins y = some (.type t) := by rw [h2]; exact ty_boot t h1
  have hvx : bootBuiltins x = some (.builtin "isinstance") := by rw [hx]; exact isi_boot
  have hty : L2.PE X (.Name y py) (tC (.ty t)) := pe_bltn hgy hmy hv rfl pny.nm pny.db
  exact PE.imp (pe_callB (call_isi' h1) hg hm hvx (pa_cons ha (pa_cons hty pa_nil) (hs _ _)) pn.nm pn.db (hs _ _)) fun σ H Q q => cs_isi q
end
end GS

/-! GS16: expressions, the induction. -/
namespace GS
open PySem PySem.Spec PyProof.Rows L2

section
variable {T : Tabs} {N : List Str} {O : Ora} {K : PySem.W.Frag} {mg : Str → Option Value} {Wx : L2.WX} {σ : L2.St} {H : Hp} {a b c e : GS.CE}
theorem tE_mono {Q Q' : VK} (h : tE O K mg Wx e σ H Q) (m : ∀ x H, Q x H → Q' x H) : tE O K mg Wx e σ H Q' := by
  obtain ⟨W0, s, R, h⟩ := h
  exact ⟨W0, s, R, h.mono (fun rv s' q v H' P => m _ _ (q v H' P)) fun _ _ q => q⟩
theorem tT_tE {Q : Bool → Hp → Prop} (h : tT O K mg Wx e σ H Q) : tE O K mg Wx e σ H fun x H1 => ∃ k, TruV K x H1 k ∧ Q k H1 := by
  obtain ⟨W0, s, R, h⟩ := h
  have h : wpG ((ev O e s).bind fun x s => Rs.opt ((x.opd.get s).bind truD) s) _ _ := h
  refine ⟨W0, s, R, (wpG_bind.mp h).mono (fun rv s' q v H' P => ?_) fun _ _ q => q⟩
  obtain ⟨k, e1, q⟩ := wpG_opt q
  exact ⟨k, tru_of P.rel P.op e1, q H' P.mv P.rel⟩
theorem rTru_bl {k : Bool} {Q : Bool → Hp → Prop} (h : ∃ c, TruV K (.bl k) H c ∧ Q c H) : Q k H := by
  obtain ⟨c, t, q⟩ := h
  cases (show c = k from t)
  exact q
theorem rCmp_mono {o : CmpOp} {x y : V} {Q Q' : VK} (h : rCmp K mg o x y H Q) (m : ∀ k H, Q (.bl k) H → Q' (.bl k) H) : rCmp K mg o x y H Q' := by
  obtain ⟨W, a, b, c, h1, h2, h3, q⟩ := h
  exact ⟨W, a, b, c, h1, h2, h3, m _ _ q⟩
theorem ct_cmp {o : CmpOp} {Q : Bool → Hp → Prop} (h : tT O K mg Wx (.cmp o a b) σ H Q) : tTest (tOp (rCmp K mg o) (tE O K mg Wx a) (tE O K mg Wx b)) σ H Q :=
  tE_mono (cs_cmp (tT_tE h)) fun x H1 h => tE_mono h fun y H2 h => rCmp_mono h fun k H3 q => ⟨k, rfl, rTru_bl q⟩
theorem ct_chain {o p : CmpOp} {Q : Bool → Hp → Prop} (h : tT O K mg Wx (.chain o p a b c) σ H Q) : tTest (tChain (rCmp K mg o) (rCmp K mg p) (tE O K mg Wx a) (tE O K mg Wx b) (tE O K mg Wx c)) σ H Q := by
  refine tE_mono (cs_chain (tT_tE h)) fun x H1 h => tE_mono h fun y H2 h => ?_
  obtain ⟨W, d1, d2, k, h1, h2, h3, k', e, h⟩ := h
  cases e
  refine ⟨W, d1, d2, k, h1, h2, h3, k, rfl, ?_⟩
  cases k with
  | true =>
    rw [if_pos rfl] at h ⊢
    exact tE_mono h fun z H4 h => rCmp_mono h fun k H3 q => ⟨k, rfl, rTru_bl q⟩
  | false =>
    rw [if_neg Bool.false_ne_true] at h ⊢
    exact ⟨false, rfl, rTru_bl h⟩
theorem ct_not {Q : Bool → Hp → Prop} (h : tT O K mg Wx (.not a) σ H Q) : tNot (tT O K mg Wx a) σ H Q := by
  obtain ⟨W0, s, R, h⟩ := h
  have h : wpG (((ev O a s).bind fun x s => Rs.opt (((x.opd.get s).bind truD).map fun b => RV.d (.bool (!b))) s).bind fun x s => Rs.opt ((x.opd.get s).bind truD) s) _ _ := h
  refine ⟨W0, s, R, ?_⟩
  show wpG ((ev O a s).bind fun x s => Rs.opt ((x.opd.get s).bind truD) s) _ _
  refine wpG_bind.mpr ((wpG_bind.mp (wpG_bind.mp h)).mono (fun rv s' q => ?_) fun _ _ q => q)
  obtain ⟨y, e1, q⟩ := wpG_opt q
  obtain ⟨k, e2, rfl⟩ := some_map e1
  rw [e2]
  exact q
theorem ct_and {Q : Bool → Hp → Prop} (h : tT O K mg Wx (.and a b) σ H Q) : tAnd (tT O K mg Wx a) (tT O K mg Wx b) σ H Q := by
  obtain ⟨W0, s, R, h⟩ := h
  have h : wpG (((ev O a s).bind fun x s => match (x.opd.get s).bind truD with
    | some true => ev O b s
    | some false => Rs.ok x s
    | none => .stuck).bind fun x s => Rs.opt ((x.opd.get s).bind truD) s) _ _ := h
  refine ⟨W0, s, R, ?_⟩
  show wpG ((ev O a s).bind fun x s => Rs.opt ((x.opd.get s).bind truD) s) _ _
  refine wpG_bind.mpr ((wpG_bind.mp (wpG_bind.mp h)).mono (fun rv s1 q => ?_) fun _ _ q => q)
  split at q
  · rename_i e1
    rw [e1]
    intro H1 m R1
    rw [if_pos rfl]
    exact tT_of R1 (wpG_bind.mpr (show wpG (ev O b s1) _ _ from wpG_bind.mp (wpG_bind.mpr q))) (fun k s2 H2 m2 R2 q => q H2 (m.trans m2) R2) (xpre m EW.id)
  · rename_i e1
    rw [e1]
    intro H1 m R1
    rw [if_neg Bool.false_ne_true]
    have q : wpG (Rs.opt ((rv.opd.get s1).bind truD) s1) _ _ := q
    rw [e1] at q
    exact q H1 m R1
  · exact q.elim
theorem ct_or {Q : Bool → Hp → Prop} (h : tT O K mg Wx (.or a b) σ H Q) : tOr (tT O K mg Wx a) (tT O K mg Wx b) σ H Q := by
  obtain ⟨W0, s, R, h⟩ := h
  have h : wpG (((ev O a s).bind fun x s => match (x.opd.get s).bind truD with
    | some true => Rs.ok x s
    | some false => ev O b s
    | none => .stuck).bind fun x s => Rs.opt ((x.opd.get s).bind truD) s) _ _ := h
  refine ⟨W0, s, R, ?_⟩
  show wpG ((ev O a s).bind fun x s => Rs.opt ((x.opd.get s).bind truD) s) _ _
  refine wpG_bind.mpr ((wpG_bind.mp (wpG_bind.mp h)).mono (fun rv s1 q => ?_) fun _ _ q => q)
  split at q
  · rename_i e1
    rw [e1]
    intro H1 m R1
    rw [if_pos rfl]
    have q : wpG (Rs.opt ((rv.opd.get s1).bind truD) s1) _ _ := q
    rw [e1] at q
    exact q H1 m R1
  · rename_i e1
    rw [e1]
    intro H1 m R1
    rw [if_neg Bool.false_ne_true]
    exact tT_of R1 (wpG_bind.mpr (show wpG (ev O b s1) _ _ from wpG_bind.mp (wpG_bind.mpr q))) (fun k s2 H2 m2 R2 q => q H2 (m.trans m2) R2) (xpre m EW.id)
  · exact q.elim
theorem ct_ite {Q : Bool → Hp → Prop} (h : tT O K mg Wx (.ite c a b) σ H Q) : tT O K mg Wx c σ H fun k H1 => if k = true then tT O K mg Wx a σ H1 Q else tT O K mg Wx b σ H1 Q := by
  obtain ⟨W0, s, R, h⟩ := h
  have h : wpG (((ev O c s).bind fun x s => match (x.opd.get s).bind truD with
    | some true => ev O a s
    | some false => ev O b s
    | none => .stuck).bind fun x s => Rs.opt ((x.opd.get s).bind truD) s) _ _ := h
  refine ⟨W0, s, R, ?_⟩
  show wpG ((ev O c s).bind fun x s => Rs.opt ((x.opd.get s).bind truD) s) _ _
  refine wpG_bind.mpr ((wpG_bind.mp (wpG_bind.mp h)).mono (fun rv s1 q => ?_) fun _ _ q => q)
  split at q
  · rename_i e1
    rw [e1]
    intro H1 m R1
    rw [if_pos rfl]
    exact tT_of R1 (wpG_bind.mpr (show wpG (ev O a s1) _ _ from wpG_bind.mp (wpG_bind.mpr q))) (fun k s2 H2 m2 R2 q => q H2 (m.trans m2) R2) (xpre m EW.id)
  · rename_i e1
    rw [e1]
    intro H1 m R1
    rw [if_neg Bool.false_ne_true]
    exact tT_of R1 (wpG_bind.mpr (show wpG (ev O b s1) _ _ from wpG_bind.mp (wpG_bind.mpr q))) (fun k s2 H2 m2 R2 q => q H2 (m.trans m2) R2) (xpre m EW.id)
  · exact q.elim
end
end GS

/-! GS17: every translated expression. -/
namespace GS
open PySem PySem.Spec PyProof.Rows L2

section
variable {T : Tabs} {N : List Str} {O : Ora} {S : Scp} {X : Cx} {Wx : L2.WX} {n : Nat}
theorem con_key {kk : Const} {d : D} {j : Nat} {p : Pos} (h : conD kk = some d) (hk : keyOk d = true) : L2.PE X (.Constant kk j p) (tC (kvOf d)) := by
  cases kk with
  | none => cases h; cases hk
  | bool b => cases h; cases hk
  | int i => cases h; exact pe_int
  | str x =>
    have h : (if PyData.strOk x && decide (x.length ≤ sizeLine) then some (PyData.str x) else none) = some d := h
    split at h
    · cases h; exact pe_str
    · cases h
  | _ => cases h
theorem trK_dic : ∀ {ks : List (Option Expr)} {ds : List D} {vs : List Expr} {cs : CEs} {m : Nat} {pos : Pos}, (∀ m, m < n + 1 → TrOk T N O m) → Gd T N O S X Wx → trKs ks = some ds → trEs T N m S vs = some cs → m < n + 1 → ks.length = vs.length →
    PPs X pos ks vs (trsOf O X.K X.mg Wx ds cs) ∧ ks.all (·.isSome) = true ∧ ds.length = ks.length
  | [], ds, [], cs, m, pos, I, G, h1, h2, hm, hl => by
    cases h1
    cases m with
    | zero => cases h2
    | succ m => cases h2; exact ⟨pps_nil, rfl, rfl⟩
  | k :: ks, ds, v :: vs, cs, m, pos, I, G, h1, h2, hm, hl => by
    cases m with
    | zero => cases h2
    | succ m =>
      unfold trEs at h2
      split at h2
      · rename_i c1 c2 e1 e2
        cases h2
        cases k with
        | none => cases h1
        | some e =>
          cases e with
          | Constant kk j p =>
            have h1 : (match conD kk, trKs ks with
              | some d, some ds => if keyOk d then some (d :: ds) else none
              | _, _ => none) = some ds := h1
            split at h1
            · rename_i d ds' e3 e4
              split at h1
              · rename_i hk
                cases h1
                obtain ⟨h3, h4, h5⟩ := trK_dic (pos := pos) I G e4 e2 (by omega) (Nat.succ.inj hl)
                exact ⟨pps_cons (con_key e3 hk) ((I m (by omega)).e G e1) h3, by rw [List.all_cons, h4]; rfl, congrArg Nat.succ h5⟩
              · cases h1
            · cases h1
          | _ => cases h1
      · cases h2
  | [], ds, v :: vs, cs, m, pos, I, G, h1, h2, hm, hl => by cases hl
  | k :: ks, ds, [], cs, m, pos, I, G, h1, h2, hm, hl => by cases hl
theorem tr_comp (I' : ∀ m, m < n + 1 → TrOk T N O m) (G : Gd T N O S X Wx) {elt tg iter : Expr} {ifs : List Expr} {scope : Scope} {p : Pos} {c : GS.CE} (h : trE T N (n + 1) S (.ListComp elt [⟨tg, iter, ifs, 0⟩] scope p) = some c) :
    ∃ ctg cit cifs celt, c = .comp ((ownOf N scope).map (·.2)) ctg cit cifs celt ∧ BlkOk X.N X.env.scope scope (ownOf N scope) ∧ L2.PI X tg iter (tI O X.K X.mg Wx cit) ∧
      (∀ (s : Shared) (H : Hp) (C : Addr) (cl : List (Str × Addr)) (fp : List Addr), L2.PG (X.blk s H scope (compEnvC scope cl C X.env) fp) tg (tG X.K X.mg ctg)) ∧
      (∀ (s : Shared) (H : Hp) (C : Addr) (cl : List (Str × Addr)) (fp : List Addr), PTs (X.blk s H scope (compEnvC scope cl C X.env) fp) ifs (tTs O X.K X.mg noWx cifs)) ∧
      (∀ (s : Shared) (H : Hp) (C : Addr) (cl : List (Str × Addr)) (fp : List Addr), L2.PE (X.blk s H scope (compEnvC scope cl C X.env) fp) elt (tE O X.K X.mg noWx celt)) ∧ ∀ x, foldedSetIterable iter X.env x = pure x := by
  have I := I' n (Nat.lt_succ_self n)
  have h : (if L2.blkC N S.sc scope (ownOf N scope) && decide (ifs.length ≤ 1) then
        match trTgt N ⟨L2.relS scope S.sc, fun x => scope.names.lookup x == some .cell⟩ tg, trI T N n S iter, trEs T N n ⟨L2.relS scope S.sc, fun x => scope.names.lookup x == some .cell⟩ ifs, trE T N n ⟨L2.relS scope S.sc, fun x => scope.names.lookup x == some .cell⟩ elt with
        | some tg, some it, some ifs, some elt => some (GS.CE.comp ((ownOf N scope).map (·.2)) tg it ifs elt)
        | _, _, _, _ => none
      else none) = some c := h
  split at h
  · rename_i hc
    simp only [Bool.and_eq_true, decide_eq_true_eq] at hc
    split at h
    · rename_i ctg cit cifs celt e1 e2 e3 e4
      cases h
      have bk := blkOk_by hc.1
      have GB := fun s H C cl fp => G.blk scope bk.kind s H C cl fp
      refine ⟨ctg, cit, cifs, celt, rfl, by rw [G.eN, G.sc]; exact bk, (I.i G e2).1 tg, fun s H C cl fp => pg_ok (GB s H C cl fp) e1, fun s H C cl fp => ?_, fun s H C cl fp => I.e (GB s H C cl fp) e4, (I.i G e2).2⟩
      cases n with
      | zero => cases e3
      | succ n =>
        cases ifs with
        | nil =>
          cases e3
          exact ⟨fun pins s σ H Q I q => pts_nil.run pins s σ H Q I (cs_yes q)⟩
        | cons a r =>
          cases r with
          | cons b r => exact absurd hc.2 (by simp)
          | nil =>
            unfold trEs at e3
            split at e3
            · rename_i c1 c2 e5 e6
              cases e3
              have e7 : c2 = .nil := by
                cases n with
                | zero => cases e6
                | succ n => cases e6; rfl
              subst e7
              exact ⟨fun pins s2 σ H2 Q I2 q => (pts_one ((I' n (by omega)).t (GB s H C cl fp) e5)).run pins s2 σ H2 Q I2 (cs_test1 q)⟩
            · cases e3
    · cases h
  · cases h
theorem tr_call (I : ∀ m, m < n + 1 → TrOk T N O m) (G : Gd T N O S X Wx) {x : Str} {args : List Expr} {kws : List Keyword} {p pos : Pos} {c : GS.CE} (h : trE T N (n + 1) S (.Call (.Name x p) args kws pos) = some c) : L2.PE X (.Call (.Name x p) args kws pos) (tE O X.K X.mg Wx c) := by
  have J := I n (Nat.lt_succ_self n)
  replace h : (if glB S.sc x && plainN x then
        match T.sig.lookup x with
        | some g => match kwNames kws, trEs T N n S args, trKws T N n S kws with
          | some ks, some es, some fs => if T.pats.contains (x, args.length, ks) && (!args.isEmpty || kws.isEmpty) then (permOf g args.length ks).bind fun ps => if ps.all dfOk then some (GS.CE.call x (appE es fs) ps) else none else none
          | _, _, _ => none
        | none => if T.free.contains x && kws.isEmpty then
            if x == Str.ofString "isinstance" then
              match isiArgs args with
              | some (a, t) => match nameIn t tyNames, trE T N n S a with
                | some ty, some a => if T.free.contains t && glB S.sc t && plainN t then some (.isi a ty) else none
                | _, _ => none
              | none => none
            else match nameIn x biNames, trEs T N n S args with
              | some f, some es => if args.isEmpty then none else some (.bi f es)
              | _, _ => none
          else none
      else none) = some c := h
  split at h
  · rename_i hx
    rw [Bool.and_eq_true] at hx
    have hg := gl_of G hx.1
    have pn := plain_of hx.2
    split at h
    · rename_i g eg
      split at h
      · rename_i ks es fs e1 e2 e3
        split at h
        · rename_i hc
          rw [Bool.and_eq_true] at hc
          obtain ⟨ps, e4, h⟩ := some_bind h
          split at h
          · rename_i hd
            cases h
            have da := G.call x g args.length ks ps eg hc.1 e4
            cases args with
            | nil =>
              cases kws with
              | cons _ _ => exact absurd hc.2 (by simp)
              | nil =>
                cases e1
                have : es = .nil := by
                  cases n with
                  | zero => cases e2
                  | succ n => cases e2; rfl
                subst this
                have : fs = .nil := by
                  cases n with
                  | zero => cases e3
                  | succ n => cases e3; rfl
                subst this
                exact pe_callG0 G hg pn da hd
            | cons a r => exact pe_callG G hg pn da hd (tr_len e2) ((trK_len e3).trans (kw_len e1).symm) (J.es G e2) (J.ks G e3) (trEs_noStar e2) e1
          · cases h
        · cases h
      · cases h
    · split at h
      · rename_i hc
        rw [Bool.and_eq_true] at hc
        have hm := G.free x hc.1
        cases kws with
        | cons _ _ => exact absurd hc.2 (by simp)
        | nil =>
          split at h
          · rename_i hi
            split at h
            · rename_i a t q
              obtain ⟨py, rfl⟩ : ∃ py, args = [a, .Name t py] := by
                unfold isiArgs at q
                split at q
                · cases q; exact ⟨_, rfl⟩
                · cases q
              split at h
              · rename_i ty ca e1 e2
                split at h
                · rename_i ht
                  simp only [Bool.and_eq_true] at ht
                  cases h
                  exact pe_isiG G (eq_of_beq hi) e1 hg pn hm (gl_of G ht.1.2) (plain_of ht.2) (G.free t ht.1.1) (J.e G e2) (tr_noStar e2)
                · cases h
              · cases h
            · cases h
          · split at h
            · rename_i f es e1 e2
              split at h
              · cases h
              · rename_i ha
                cases h
                cases args with
                | nil => exact absurd rfl ha
                | cons a r => exact pe_biG G e1 hg pn hm (J.es G e2) (trEs_noStar e2)
            · cases h
      · cases h
  · cases h
theorem tr_meth (I : ∀ m, m < n + 1 → TrOk T N O m) (G : Gd T N O S X Wx) {o : Expr} {m : Str} {args : List Expr} {apos pos : Pos} {c : GS.CE} (h : trE T N (n + 1) S (.Call (.Attribute o m apos) args [] pos) = some c) : L2.PE X (.Call (.Attribute o m apos) args [] pos) (tE O X.K X.mg Wx c) := by
  have J := I n (Nat.lt_succ_self n)
  replace h : (if apos.endLine == pos.line then
        if m == Str.ofString "extend" then match (nameOf o).bind (slotOf N S), (oneOf args).bind (trE T N n S) with
          | some i, some e => some (GS.CE.ext i e)
          | _, _ => none
        else match nameIn m mutNames with
        | some m => match (nameOf o).bind (slotOf N S), trEs T N n S args with
            | some i, some es => if decide (args.length < 30) then some (GS.CE.mut m i es) else none
            | _, _ => none
        | none => match nameIn m methNames, trE T N n S o, trEs T N n S args with
          | some m, some a, some es => if noCall0 o && !args.isEmpty && decide (args.length < 30) then some (.meth m a es) else none
          | _, _, _ => none
      else none) = some c := h
  split at h
  · rename_i hl
    split at h
    · rename_i isE
      obtain rfl : m = Str.ofString "extend" := eq_of_beq isE
      split at h
      · rename_i i ce e2 e3
        cases h
        obtain ⟨y, en, e2⟩ := some_bind e2
        obtain ⟨a, ea, e3⟩ := some_bind e3
        obtain ⟨py, rfl⟩ : ∃ py, o = .Name y py := by
          unfold nameOf at en
          split at en
          · cases en; exact ⟨_, rfl⟩
          · cases en
        obtain rfl : args = [a] := by
          unfold oneOf at ea
          split at ea
          · cases ea; rfl
          · cases ea
        have sa := tr_noStar e3 [] X.env
        exact PE.imp (pe_bm F.plainAttrs_list F.slot_list_extend F.type_list_extend mt_extend (pe_slot G e2) (pa_cons (J.e G e3) pa_nil sa) rfl (by rw [sa]; rfl) hl sa rfl) fun σ H Q q => cs_ext q
      · cases h
    split at h
    · rename_i f e1
      obtain ⟨hf, rfl⟩ := nameIn_ok e1
      have MF := mu_facts f hf
      split at h
      · rename_i i es e2 e3
        obtain ⟨y, en, e2⟩ := some_bind e2
        obtain ⟨py, rfl⟩ : ∃ py, o = .Name y py := by
          unfold nameOf at en
          split at en
          · cases en; exact ⟨_, rfl⟩
          · cases en
        · split at h
          · rename_i hc
            simp only [decide_eq_true_eq] at hc
            cases h
            have ho : L2.PE X (.Name y py) (tVar i) := pe_slot G e2
            cases args with
            | nil =>
              have : es = .nil := by
                cases n with
                | zero => cases e3
                | succ n => cases e3; rfl
              subst this
              refine PE.imp (pe_bm0 F.plainAttrs_list MF.slot MF.ty (mu_any f) ho rfl hl) fun σ H Q q => ?_
              obtain ⟨v, h1, h2, W0, s0, R, h3⟩ := cs_mut q
              exact ⟨v, h1, h2, h3 [] H ⟨.refl, R, .nil⟩⟩
            | cons a r =>
              have hs := trEs_noStar e3
              obtain ⟨p1, p2⟩ := stars_plain hs X.env pos
              refine PE.imp (pe_bm F.plainAttrs_list MF.slot MF.ty (mu_any f) ho (J.es G e3) rfl ?_ hl (hs _ List.mem_cons_self r X.env) (stars_plain (fun b hb => hs b (List.mem_cons_of_mem _ hb)) X.env pos).1) fun σ H Q q => cs_mut q
              rw [p2]
              simpa [backToKw, keywordEach] using hc
          · cases h
      · cases h
    · split at h
      · rename_i f a es e1 e2 e3
        split at h
        · rename_i hc
          simp only [Bool.and_eq_true, decide_eq_true_eq] at hc
          cases h
          obtain ⟨hf, rfl⟩ := nameIn_ok e1
          have MF := mt_facts f hf
          cases args with
          | nil => exact absurd hc.1.2 (by decide)
          | cons a r =>
            have hs := trEs_noStar e3
            obtain ⟨p1, p2⟩ := stars_plain hs X.env pos
            refine PE.imp (pe_bm MF.pa MF.slot MF.ty (mt_any (by have := G.un; omega) f) (J.e G e2) (J.es G e3) (base_plain hc.1.1) ?_ hl (hs _ List.mem_cons_self r X.env) (stars_plain (fun b hb => hs b (List.mem_cons_of_mem _ hb)) X.env pos).1) fun σ H Q q => cs_meth q
            rw [p2]
            simpa [backToKw, keywordEach] using hc.2
        · cases h
      · cases h
  · cases h
end
end GS

/-! GS18: every translated expression does what its core says. -/
namespace GS
open PySem PySem.Spec PyProof.Rows L2

section
variable {T : Tabs} {N : List Str} {O : Ora} {S : Scp} {X : Cx} {Wx : L2.WX} {n : Nat}
theorem hu100 (G : Gd T N O S X Wx) : X.A.units + 100 < cLine := by have := G.un; omega
theorem tr_e (I : ∀ m, m < n + 1 → TrOk T N O m) (G : Gd T N O S X Wx) {e : Expr} {c : GS.CE} (h : trE T N (n + 1) S e = some c) : L2.PE X e (tE O X.K X.mg Wx c) := by
  have J := I n (Nat.lt_succ_self n)
  have u100 := hu100 G
  cases e with
  | Constant k j p => exact tr_con G h
  | Name x p => exact tr_name G h
  | BinOp a op b p =>
    replace h : (match trE T N n S a, trE T N n S b with
      | some ca, some cb => some (if isMul op && isNewL a then GS.CE.rep ca cb else .bin op ca cb)
      | _, _ => none) = some c := h
    split at h
    · rename_i ca cb e1 e2
      cases h
      split
      · rename_i hm
        have isM : op = .Mult := by cases op <;> first | rfl | cases (Bool.and_eq_true_iff.mp hm).1
        subst isM
        exact PE.imp (pe_op op_rep (J.e G e1) (J.e G e2)) fun σ H Q q => cs_rep q
      · exact PE.imp (pe_op (op_bin op) (J.e G e1) (J.e G e2)) fun σ H Q q => cs_bin q
    · cases h
  | UnaryOp op a p =>
    cases op with
    | USub =>
      replace h : (trE T N n S a).map GS.CE.neg = some c := h
      obtain ⟨ca, e1, rfl⟩ := some_map h
      exact PE.imp (pe_negG (J.e G e1)) fun σ H Q q => cs_neg q
    | Not =>
      replace h : (trE T N n S a).map GS.CE.not = some c := h
      obtain ⟨ca, e1, rfl⟩ := some_map h
      exact PE.imp (pe_notT (J.e G e1)) fun σ H Q q => cs_not q
    | _ => cases h
  | BoolOp op es p =>
    cases es with
    | nil => cases op <;> cases h
    | cons a r =>
      cases r with
      | nil =>
        replace h : trE T N n S a = some c := by cases op <;> exact h
        exact pe_one (J.e G h)
      | cons b r =>
        cases op with
        | And =>
          replace h : (match trE T N n S a, trE T N n S (.BoolOp .And (b :: r) p) with
            | some a, some b => some (GS.CE.and a b)
            | _, _ => none) = some c := h
          split at h
          · rename_i ca cb e1 e2
            cases h
            exact PE.imp (pe_andT (J.e G e1) (J.e G e2)) fun σ H Q q => cs_and q
          · cases h
        | Or =>
          replace h : (match trE T N n S a, trE T N n S (.BoolOp .Or (b :: r) p) with
            | some a, some b => some (GS.CE.or a b)
            | _, _ => none) = some c := h
          split at h
          · rename_i ca cb e1 e2
            cases h
            exact PE.imp (pe_orT (J.e G e1) (J.e G e2)) fun σ H Q q => cs_or q
          · cases h
  | Compare a ops cs p =>
    rcases ops with _ | ⟨o, _ | ⟨o2, _ | ⟨o3, ops⟩⟩⟩ <;> rcases cs with _ | ⟨b, _ | ⟨d, _ | ⟨d3, cs⟩⟩⟩
    case cons.nil.cons.nil =>
      replace h : (match trE T N n S a, trE T N n S b with
        | some a, some b => some (GS.CE.cmp o a b)
        | _, _ => none) = some c := h
      split at h
      · rename_i ca cb e1 e2
        cases h
        exact PE.imp (pe_cmpR (op_cmp o u100) (J.e G e1) (J.e G e2) (tr_noSet e2 o)) fun σ H Q q => cs_cmp q
      · cases h
    case cons.cons.nil.cons.cons.nil =>
      replace h : (match trE T N n S a, trE T N n S b, trE T N n S d with
        | some a, some b, some d => some (GS.CE.chain o o2 a b d)
        | _, _, _ => none) = some c := h
      split at h
      · rename_i ca cb cd e1 e2 e3
        cases h
        exact PE.imp (pe_chain (op_cmp o u100) (op_cmp o2 u100) (J.e G e1) (J.e G e2) (J.e G e3) (show behindInMarks o2 d = false from tr_noSet e3 o2)) fun σ H Q q => cs_chain q
      · cases h
    all_goals cases h
  | IfExp t a b p =>
    replace h : (match trE T N n S t, trE T N n S a, trE T N n S b with
      | some t, some a, some b => some (GS.CE.ite t a b)
      | _, _, _ => none) = some c := h
    split at h
    · rename_i ct ca cb e1 e2 e3
      cases h
      exact PE.imp (pe_ifExp (J.t G e1) (J.e G e2) (J.e G e3)) fun σ H Q q => cs_ite q
    · cases h
  | Tuple es k p =>
    replace h : (trEs T N n S es).map GS.CE.tup = some c := h
    obtain ⟨ca, e1, rfl⟩ := some_map h
    exact PE.imp (pe_tup (J.es G e1)) fun σ H Q q => cs_tup q
  | List es p =>
    replace h : (trEs T N n S es).map GS.CE.lst = some c := h
    obtain ⟨ca, e1, rfl⟩ := some_map h
    exact PE.imp (pe_lst (J.es G e1)) fun σ H Q q => cs_lst q
  | Dict ks vs p =>
    replace h : (match trKs ks, trEs T N n S vs with
      | some es, some fs => if ks.length == vs.length && decide (ks.length ≤ 15) then some (GS.CE.dic es fs) else none
      | _, _ => none) = some c := h
    split at h
    · rename_i es fs e1 e2
      split at h
      · rename_i hc
        simp only [Bool.and_eq_true, decide_eq_true_eq] at hc
        have hl : ks.length = vs.length := eq_of_beq hc.1
        cases h
        obtain ⟨h1, h2, h3⟩ := trK_dic (pos := p) I G e1 e2 (Nat.lt_succ_self n) hl
        cases ks with
        | nil =>
          cases vs with
          | cons _ _ => cases hl
          | nil =>
            cases e1
            have : fs = .nil := by
              cases n with
              | zero => cases e2
              | succ n => cases e2; rfl
            subst this
            exact PE.imp pe_dnewK fun σ H Q q => cs_dnew q
        | cons k ks => exact PE.imp (pe_disp h1 h2 hl (by simp) hc.2) fun σ H Q q => cs_dic (by rw [tr_len e2, h3, hl]) q
      · cases h
    · cases h
  | Subscript a b p =>
    by_cases hb : ∃ l u q, b = .Slice l u none q
    · obtain ⟨l, u, q, rfl⟩ := hb
      replace h : (match trE T N n S a, trO T N n S l, trO T N n S u with
        | some a, some l, some u => some (GS.CE.slc a l u)
        | _, _, _ => none) = some c := h
      split at h
      · rename_i ca cl cu e1 e2 e3
        cases h
        exact PE.imp (pe_slice sl_any (J.e G e1) (J.o G e2) (J.o G e3)) fun σ H Q q => cs_slc q
      · cases h
    · have h2 : (match trE T N n S a, trE T N n S b with
        | some a, some b => some (GS.CE.idx a b)
        | _, _ => none) = some c := by
        cases b with
        | Slice l u st q =>
          cases st with
          | none => exact absurd ⟨l, u, q, rfl⟩ hb
          | some _ => exact h
        | _ => exact h
      split at h2
      · rename_i ca cb e1 e2
        cases h2
        exact PE.imp (pe_ix (ix_any (by omega)) (J.e G e1) (J.e G e2) (tr_ix e2)) fun σ H Q q => cs_idx q
      · cases h2
  | ListComp elt gs scope p =>
    cases gs with
    | nil => cases h
    | cons g gs =>
      obtain ⟨tg, iter, ifs, k⟩ := g
      rcases k with (_ | k) | k <;> rcases gs with _ | ⟨g, gs⟩
      case ofNat.zero.nil =>
        obtain ⟨ctg, cit, cifs, celt, rfl, bk, hi, hg, ht, he, hs⟩ := tr_comp I G h
        exact PE.imp (pe_lc G.calm (by rw [G.eN]; exact G.nd) hi bk hg ht he hs) fun σ H Q q => cs_comp q
      all_goals cases h
  | Call f args kws p =>
    cases f with
    | Name x px => exact tr_call I G h
    | Attribute o m apos =>
      cases kws with
      | nil => exact tr_meth I G h
      | cons _ _ => cases h
    | _ => cases h
  | _ => cases h
theorem tr_w (I : ∀ m, m < n + 1 → TrOk T N O m) (G : Gd T N O S X Wx) {op : BoolOp} {es : List Expr} {p : Pos} {c : GS.CE} (h : trE T N (n + 1) S (.BoolOp op es p) = some c) : L2.PW X (.BoolOp op es p) (tT O X.K X.mg Wx c) := by
  have J := I n (Nat.lt_succ_self n)
  cases es with
  | nil => cases op <;> cases h
  | cons a r =>
    cases r with
    | nil =>
      replace h : trE T N n S a = some c := by cases op <;> exact h
      cases op with
      | And => exact pw_and1 (J.t G h)
      | Or => exact pw_or1 (J.t G h)
    | cons b r =>
      cases op with
      | And =>
        replace h : (match trE T N n S a, trE T N n S (.BoolOp .And (b :: r) p) with
          | some a, some b => some (GS.CE.and a b)
          | _, _ => none) = some c := h
        split at h
        · rename_i ca cb e1 e2
          cases h
          exact PW.imp (pw_and (J.t G e1) (J.w G e2)) fun σ H Q q => ct_and q
        · cases h
      | Or =>
        replace h : (match trE T N n S a, trE T N n S (.BoolOp .Or (b :: r) p) with
          | some a, some b => some (GS.CE.or a b)
          | _, _ => none) = some c := h
        split at h
        · rename_i ca cb e1 e2
          cases h
          exact PW.imp (pw_or (J.t G e1) (J.w G e2)) fun σ H Q q => ct_or q
        · cases h
theorem tr_t (I : ∀ m, m < n + 1 → TrOk T N O m) (G : Gd T N O S X Wx) {e : Expr} {c : GS.CE} (h : trE T N (n + 1) S e = some c) : L2.PT X e (tT O X.K X.mg Wx c) := by
  have J := I n (Nat.lt_succ_self n)
  have u100 := hu100 G
  have pl : (∀ whole, isTrue e X.env whole = (do let v ← whole; standAt e.pos; holding [v] (truthy v))) → L2.PT X e (tT O X.K X.mg Wx c) := fun he =>
    PT.imp (pt_truth (tr_e I G h) he) fun σ H Q q => tT_tE q
  cases e with
  | BoolOp op es p => exact (tr_w I G h).pt
  | UnaryOp op a p =>
    cases op with
    | Not =>
      replace h : (trE T N n S a).map GS.CE.not = some c := h
      obtain ⟨ca, e1, rfl⟩ := some_map h
      exact PT.imp (pt_not (J.t G e1)) fun σ H Q q => ct_not q
    | USub => exact pl fun _ => rfl
    | _ => cases h
  | IfExp t a b p =>
    replace h : (match trE T N n S t, trE T N n S a, trE T N n S b with
      | some t, some a, some b => some (GS.CE.ite t a b)
      | _, _, _ => none) = some c := h
    split at h
    · rename_i ct ca cb e1 e2 e3
      cases h
      exact PT.imp (pt_iteG (J.t G e1) (J.t G e2) (J.t G e3)) fun σ H Q q => ct_ite q
    · cases h
  | Compare a ops cs p =>
    rcases ops with _ | ⟨o, _ | ⟨o2, _ | ⟨o3, ops⟩⟩⟩ <;> rcases cs with _ | ⟨b, _ | ⟨d, _ | ⟨d3, cs⟩⟩⟩
    case cons.nil.cons.nil =>
      replace h : (match trE T N n S a, trE T N n S b with
        | some a, some b => some (GS.CE.cmp o a b)
        | _, _ => none) = some c := h
      split at h
      · rename_i ca cb e1 e2
        cases h
        exact PT.imp (pt_cmpR (op_cmp o u100) (J.e G e1) (J.e G e2) (tr_noSet e2 o)) fun σ H Q q => ct_cmp q
      · cases h
    case cons.cons.nil.cons.cons.nil =>
      replace h : (match trE T N n S a, trE T N n S b, trE T N n S d with
        | some a, some b, some d => some (GS.CE.chain o o2 a b d)
        | _, _, _ => none) = some c := h
      split at h
      · rename_i ca cb cd e1 e2 e3
        cases h
        exact PT.imp (pt_chain (op_cmp o u100) (op_cmp o2 u100) (J.e G e1) (J.e G e2) (J.e G e3) (show behindInMarks o2 d = false from tr_noSet e3 o2)) fun σ H Q q => ct_chain q
      · cases h
    all_goals cases h
  | Constant k j p => exact pl fun _ => rfl
  | Name x p => exact pl fun _ => rfl
  | BinOp a op b p => exact pl fun _ => rfl
  | Tuple es k p => exact pl fun _ => rfl
  | List es p => exact pl fun _ => rfl
  | Dict ks vs p => exact pl fun _ => rfl
  | Subscript a b p => exact pl fun _ => rfl
  | ListComp elt gs scope p => exact pl fun _ => rfl
  | Call f args kws p => exact pl fun _ => rfl
  | _ => cases h
theorem trOk : ∀ n, ∀ m, m < n → TrOk T N O m := by
  intro n
  induction n with
  | zero => intro m h; exact absurd h (Nat.not_lt_zero m)
  | succ n ih =>
    intro m hm
    by_cases hlt : m < n
    · exact ih m hlt
    · have : m = n := by omega
      subst this
      cases m with
      | zero => exact ⟨fun _ h => (by cases h), fun _ h => (by cases h), fun _ h => (by cases h), fun _ h => (by cases h), fun _ h => (by cases h), fun _ h => (by cases h), fun _ h => (by cases h)⟩
      | succ n =>
        have J := ih n (Nat.lt_succ_self n)
        refine ⟨fun G h => tr_e ih G h, fun G h => tr_t ih G h, fun G h => tr_w ih G h, fun {S X Wx es c} G h => ?_, fun {S X Wx es c} G h => ?_, fun {S X Wx e c} G h => ?_, fun {S X Wx e c} G h => ?_⟩
        · cases es with
          | nil => cases h; exact PA.imp pa_nil fun σ H Q q => cs_nil q
          | cons a r =>
            replace h : (match trE T N n S a, trEs T N n S r with
              | some e, some r => some (CEs.cons e r)
              | _, _ => none) = some c := h
            split at h
            · rename_i ca cr e1 e2
              cases h
              exact PA.imp (pa_cons (J.e G e1) (J.es G e2) (tr_noStar e1 r X.env)) fun σ H Q q => cs_cons q
            · cases h
        · cases es with
          | nil => cases h; exact ⟨fun pos pins s σ H Q I q => pk_nil.run pos pins s σ H Q I (cs_nil q)⟩
          | cons a r =>
            obtain ⟨x, a, p⟩ := a
            replace h : (match trE T N n S a, trKws T N n S r with
              | some e, some r => some (CEs.cons e r)
              | _, _ => none) = some c := h
            split at h
            · rename_i ca cr e1 e2
              cases h
              exact ⟨fun pos pins s σ H Q I q => (pk_cons (J.e G e1) (J.ks G e2)).run pos pins s σ H Q I (cs_cons q)⟩
            · cases h
        · cases e with
          | none => cases h; exact PO.imp po_none fun σ H Q q => cs_noPart q
          | some e =>
            replace h : (trE T N n S e).map (fun e => CEs.cons e .nil) = some c := h
            obtain ⟨ca, e1, rfl⟩ := some_map h
            exact PO.imp (po_some (J.e G e1)) fun σ H Q q => cs_part q
        · have pl : (trE T N n S e).map CI.v = some c → (∀ tg, L2.PI X tg e (tI O X.K X.mg Wx c)) ∧ ∀ x, foldedSetIterable e X.env x = pure x := fun h => by
            obtain ⟨ca, e1, rfl⟩ := some_map h
            exact ⟨fun tg => pi_any G.calm (J.e G e1), tr_noFold e1 X.env⟩
          cases e with
          | Call f args kws p =>
            cases f with
            | Name x px =>
              cases kws with
              | nil =>
                by_cases hx : (x == Str.ofString "range") = true
                · have hx' : x = "range" := eq_of_beq hx
                  rcases args with _ | ⟨a, _ | ⟨b, _ | ⟨d, args⟩⟩⟩
                  · replace h : (if x == Str.ofString "range" then if glB S.sc x && T.free.contains x then none else none else (trE T N n S (.Call (.Name x px) [] [] p)).map CI.v) = some c := h
                    rw [if_pos hx] at h
                    split at h <;> cases h
                  · replace h : (if x == Str.ofString "range" then if glB S.sc x && T.free.contains x then (trE T N n S a).map CI.rng1 else none else (trE T N n S (.Call (.Name x px) [a] [] p)).map CI.v) = some c := h
                    rw [if_pos hx] at h
                    split at h
                    · rename_i hc
                      rw [Bool.and_eq_true] at hc
                      obtain ⟨ca, e1, rfl⟩ := some_map h
                      have hg := gl_of G hc.1
                      have hm := G.free x hc.2
                      subst hx'
                      exact ⟨fun tg => PI.imp (pi_range1 hg hm (pa_cons (J.e G e1) pa_nil (tr_noStar e1 [] X.env)) (tr_noStar e1 [] X.env)) fun σ H Q q => cs_rng1 q, fun _ => rfl⟩
                    · cases h
                  · replace h : (if x == Str.ofString "range" then if glB S.sc x && T.free.contains x then (match trE T N n S a, trE T N n S b with
                      | some a, some b => some (CI.rng2 a b)
                      | _, _ => none) else none else (trE T N n S (.Call (.Name x px) [a, b] [] p)).map CI.v) = some c := h
                    rw [if_pos hx] at h
                    split at h
                    · rename_i hc
                      rw [Bool.and_eq_true] at hc
                      split at h
                      · rename_i ca cb e1 e2
                        cases h
                        have hg := gl_of G hc.1
                        have hm := G.free x hc.2
                        subst hx'
                        have sb := tr_noStar e2 [] X.env
                        exact ⟨fun tg => PI.imp (pi_range2 hg hm (pa_cons (J.e G e1) (pa_cons (J.e G e2) pa_nil sb) (tr_noStar e1 [b] X.env)) (by rw [tr_noStar e1 [b] X.env, sb]; rfl) sb) fun σ H Q q => cs_rng2 q, fun _ => rfl⟩
                      · cases h
                    · cases h
                  · replace h : (if x == Str.ofString "range" then if glB S.sc x && T.free.contains x then none else none else (trE T N n S (.Call (.Name x px) (a :: b :: d :: args) [] p)).map CI.v) = some c := h
                    rw [if_pos hx] at h
                    split at h <;> cases h
                · refine pl ?_
                  rcases args with _ | ⟨a, _ | ⟨b, _ | ⟨d, args⟩⟩⟩
                  · replace h : (if x == Str.ofString "range" then if glB S.sc x && T.free.contains x then none else none else (trE T N n S (.Call (.Name x px) [] [] p)).map CI.v) = some c := h
                    rw [if_neg hx] at h
                    exact h
                  · replace h : (if x == Str.ofString "range" then if glB S.sc x && T.free.contains x then (trE T N n S a).map CI.rng1 else none else (trE T N n S (.Call (.Name x px) [a] [] p)).map CI.v) = some c := h
                    rw [if_neg hx] at h
                    exact h
                  · replace h : (if x == Str.ofString "range" then if glB S.sc x && T.free.contains x then (match trE T N n S a, trE T N n S b with
                      | some a, some b => some (CI.rng2 a b)
                      | _, _ => none) else none else (trE T N n S (.Call (.Name x px) [a, b] [] p)).map CI.v) = some c := h
                    rw [if_neg hx] at h
                    exact h
                  · replace h : (if x == Str.ofString "range" then if glB S.sc x && T.free.contains x then none else none else (trE T N n S (.Call (.Name x px) (a :: b :: d :: args) [] p)).map CI.v) = some c := h
                    rw [if_neg hx] at h
                    exact h
              | cons _ _ => exact pl h
            | _ => exact pl h
          | _ => exact pl h
end
end GS

/-! GS19: every translated statement does what its core says. -/
namespace GS
open PySem PySem.Spec PyProof.Rows L2

section
variable {T : Tabs} {N : List Str} {O : Ora} {S : Scp} {X : Cx} {Wx : L2.WX} {n : Nat}
theorem PS.imp {st : Stmt} {t t' : TS} (h : L2.PS X st t) (i : ∀ D σ H, t' D σ H → t D σ H) : L2.PS X st t' := ⟨fun pins s σ H D I q => h.run pins s σ H D I (i D σ H q)⟩
theorem PSs.imp {st : List Stmt} {t t' : TS} (h : L2.PSs X st t) (i : ∀ D σ H, t' D σ H → t D σ H) : L2.PSs X st t' := ⟨fun pins s σ H D I q => h.run pins s σ H D I (i D σ H q)⟩
theorem sw_none {e : Expr} (h : isComp e = false) (l : Nat) (env : Env) : swapsWith e none l env = pure false := by
  cases e <;> first | rfl | cases h
theorem sw_other {e : Expr} (h : isComp e = false) (t : Expr) (l : Nat) (env : Env) : swapsWith e (some t) l env = pure false := by
  cases e <;> first | rfl | cases h
theorem sw_tuple {e : Expr} {ts : List Expr} {k : Nat} {p : Pos} (l : Nat) (env : Env) : swapsWith e (some (.Tuple ts k p)) l env = pure false := by
  cases e <;> rfl
theorem sw_sub {e a b : Expr} {p : Pos} (l : Nat) (env : Env) : swapsWith e (some (.Subscript a b p)) l env = pure false := by
  cases e <;> rfl
theorem stores_none {e : Expr} {ts : List Expr} {k : Nat} {p : Pos} (env : Env) (h : ∀ vs k p, e ≠ .Tuple vs k p) : swappedStores [.Tuple ts k p] e env = pure none := by
  cases e <;> first | rfl | exact absurd rfl (h _ _ _)
theorem stores_folded {ts vs : List Expr} {k k2 : Nat} {p p2 : Pos} (env : Env) (h : vs.all (foldedForSure 8) = true) : swappedStores [.Tuple ts k p] (.Tuple vs k2 p2) env = pure none := by
  unfold swappedStores
  simp only [h]
  split
  · rfl
  · split
    · rfl
    · split
      · rfl
      · rfl
def isStar : Expr → Bool
  | .Starred .. => true
  | _ => false
theorem tr_isStar {e : Expr} {c : GS.CE} (h : trE T N n S e = some c) : isStar e = false := by
  cases n with
  | zero => cases h
  | succ n => cases e <;> first | rfl | cases h
theorem beq_of {a b : Option NameKind} (h : (a == b) = true) : a = b := by simpa using h
theorem stores_par (G : Gd T N O S X Wx) {x y : Str} {px py : Pos} {kt k2 : Nat} {pt pt2 : Pos} {a b : Expr} (hx : X.env.scope.names.lookup x = some .local) (hy : X.env.scope.names.lookup y = some .local) (hxy : x ≠ y) (hl : (py.line == px.line) = true) (ha : isStar a = false) (hb : isStar b = false)
    (h1 : ([a, b] : List Expr).all (foldedForSure 8) = false) (h2 : ([a, b] : List Expr).all (constantsAlone 8) = false) :
    swappedStores [.Tuple [.Name x px, .Name y py] kt pt] (.Tuple [a, b] k2 pt2) X.env = pure (some [x, y]) := by
  have hbk : X.env.blockKind = .function := by unfold Env.blockKind; rw [G.kind]; rfl
  have kx : X.env.kindOf x = some .local := hx
  have ky : X.env.kindOf y = some .local := hy
  have hs : (([a, b] : List Expr).any fun | .Starred .. => true | _ => false) = false := by
    show (isStar a || (isStar b || false)) = false
    rw [ha, hb]; rfl
  have hyx : (y == x) = false := beq_eq_false_iff_ne.mpr (Ne.symm hxy)
  have hxy' : (x == y) = false := beq_eq_false_iff_ne.mpr hxy
  unfold swappedStores
  simp only [hbk, h1, h2, kx, ky, hl, Expr.pos, List.filterMap_cons, List.filterMap_nil, List.length_cons, List.length_nil, List.head?, Option.map, Option.getD, beq_self_eq_true, Bool.and_self, if_true, bne_self_eq_false, Bool.or_false, Bool.false_or]
  rw [if_neg (by decide), if_neg (fun z => by
    have z' : (isStar a || (isStar b || false)) = true := z
    rw [ha, hb] at z'
    cases z')]
  have he : ([x, y] : List Str).eraseDups = [x, y] := by
    rw [List.eraseDups_cons]
    simp [hyx, List.eraseDups_cons]
  rw [if_neg (by rw [he]; simp)]
  rfl
structure TrS (T : Tabs) (N : List Str) (O : Ora) (n : Nat) : Prop where
  s : ∀ {S : Scp} {X : Cx} {Wx : L2.WX} {st : Stmt} {c : CS}, Gd T N O S X Wx → PassesOwn (model X.prog X.w) X.A X.env X.xe → trS T N n S st = some c → L2.PS X st (tS O X.K X.mg Wx c)
  b : ∀ {S : Scp} {X : Cx} {Wx : L2.WX} {st : List Stmt} {c : CSs}, Gd T N O S X Wx → PassesOwn (model X.prog X.w) X.A X.env X.xe → trB T N n S st = some c → L2.PSs X st (tB O X.K X.mg Wx c)
theorem tr_set (G : Gd T N O S X Wx) {x : Str} {px p : Pos} {e : Expr} {c : GS.CE} {i : Nat} (e1 : tgtOf N S x = some i) (e2 : trE T N n S e = some c) : L2.PS X (.Assign [.Name x px] e p) (tS O X.K X.mg Wx (.set i c)) := by
  obtain ⟨h1, h2, h3, h4⟩ := tgt_ok G e1
  have hN : X.N.Nodup := by rw [G.eN]; exact G.nd
  have J : ∀ m, TrOk T N O m := fun m => trOk (m + 1) m (Nat.lt_succ_self m)
  have pl : swapsWith e (some (.Name x px)) p.line X.env = pure false → L2.PS X (.Assign [.Name x px] e p) (tS O X.K X.mg Wx (.set i c)) := fun hs =>
    PS.imp (ps_set hN h1 h2 ((J n).e G e2) hs h3) fun D σ H q => cs_set q
  cases hc : isComp e with
  | false => exact pl (sw_other hc _ _ _)
  | true =>
    cases e with
    | ListComp elt gs scope pos =>
      cases n with
      | zero => cases e2
      | succ n =>
        cases gs with
        | nil => cases e2
        | cons g gs =>
          obtain ⟨tg, iter, ifs, k⟩ := g
          rcases k with (_ | k) | k <;> rcases gs with _ | ⟨g, gs⟩
          case ofNat.zero.nil =>
            have hsw : swapsWith (.ListComp elt [⟨tg, iter, ifs, Int.ofNat 0⟩] scope pos) (some (.Name x px)) p.line X.env = pure (X.env.blockKind == .function && X.env.kindOf x == some .local && px.line == pos.line && !(scope.names.any fun (n, k) => n == x && (k == .local || k == .cell))) := rfl
            cases hb : (X.env.blockKind == .function && X.env.kindOf x == some .local && px.line == pos.line && !(scope.names.any fun (n, k) => n == x && (k == .local || k == .cell))) with
            | false => rw [hb] at hsw; exact pl hsw
            | true =>
              rw [hb] at hsw
              simp only [Bool.and_eq_true] at hb
              have hloc : X.env.scope.names.lookup x = some .local := beq_of hb.1.1.2
              obtain ⟨ctg, cit, cifs, celt, rfl, bk, hi, hg, ht, he, hs⟩ := tr_comp (fun m _ => J m) G e2
              exact PS.imp (ps_setLc G.calm hN h1 hloc hsw hi bk hg ht he hs) fun D σ H q => cs_comp (cs_set q)
          all_goals cases e2
    | SetComp _ _ _ _ => cases n <;> cases e2
    | DictComp _ _ _ _ _ => cases n <;> cases e2
    | _ => cases hc
theorem tgts_two {es : List Expr} {i j : Nat} (h : trTgts N S es = some [i, j]) : ∃ x px y py, es = [.Name x px, .Name y py] ∧ tgtOf N S x = some i ∧ tgtOf N S y = some j := by
  have one : ∀ {es : List Expr} {i : Nat} {is : List Nat}, trTgts N S es = some (i :: is) → ∃ x px r, es = .Name x px :: r ∧ tgtOf N S x = some i ∧ trTgts N S r = some is := fun {es i is} h => by
    cases es with
    | nil => cases h
    | cons e r =>
      cases e with
      | Name x p =>
        replace h : (match tgtOf N S x, trTgts N S r with
          | some i, some is => some (i :: is)
          | _, _ => none) = some (i :: is) := h
        split at h
        · rename_i a b e1 e2
          cases h
          exact ⟨x, p, r, rfl, e1, e2⟩
        · cases h
      | _ => cases h
  obtain ⟨x, px, r, rfl, h1, h2⟩ := one h
  obtain ⟨y, py, r, rfl, h3, h4⟩ := one h2
  cases r with
  | nil => exact ⟨x, px, y, py, rfl, h1, h3⟩
  | cons e r =>
    exfalso
    cases e with
    | Name z p =>
      replace h4 : (match tgtOf N S z, trTgts N S r with
        | some i, some is => some (i :: is)
        | _, _ => none) = some [] := h4
      split at h4 <;> cases h4
    | _ => cases h4
theorem trEs_two {es : List Expr} {a b : GS.CE} (h : trEs T N n S es = some (.cons a (.cons b .nil))) : ∃ e f m k, es = [e, f] ∧ trE T N m S e = some a ∧ trE T N k S f = some b := by
  have one : ∀ {n : Nat} {es : List Expr} {a : GS.CE} {r : CEs}, trEs T N n S es = some (.cons a r) → ∃ e m q, es = e :: q ∧ trE T N m S e = some a ∧ trEs T N m S q = some r := fun {n es a r} h => by
    cases n with
    | zero => cases h
    | succ n =>
      cases es with
      | nil => cases h
      | cons e q =>
        unfold trEs at h
        split at h
        · rename_i c1 c2 e1 e2
          cases h
          exact ⟨e, n, q, rfl, e1, e2⟩
        · cases h
  obtain ⟨e, m, q, rfl, h1, h2⟩ := one h
  obtain ⟨f, k, q, rfl, h3, h4⟩ := one h2
  cases q with
  | nil => exact ⟨e, f, m, k, rfl, h1, h3⟩
  | cons x q =>
    have := tr_len h4
    cases this
theorem tr_asgT (G : Gd T N O S X Wx) {ts : List Expr} {k : Nat} {pt p : Pos} {e : Expr} {c : GS.CE} {is : List Nat} (e1 : trTgts N S ts = some is) (he : L2.PE X e (tE O X.K X.mg Wx c)) (hw : swappedStores [.Tuple ts k pt] e X.env = pure none) : L2.PS X (.Assign [.Tuple ts k pt] e p) (tS O X.K X.mg Wx (.tset (.tup is) c)) := by
  have hg : L2.PG X (.Tuple ts k pt) (tG X.K X.mg (.tup is)) := pg_ok (N := N) (S := S) G (by show (trTgts N S ts).map CT.tup = _; rw [e1]; rfl)
  exact PS.imp (ps_asg he hg (@sw_tuple e ts k pt p.line X.env) hw rfl) fun D σ H q => cs_tset q
theorem trSOk : ∀ n, TrS T N O n := by
  have J : ∀ m, TrOk T N O m := fun m => trOk (m + 1) m (Nat.lt_succ_self m)
  intro n
  induction n with
  | zero => exact ⟨fun _ _ h => (by cases h), fun _ _ h => (by cases h)⟩
  | succ n ih =>
    refine ⟨fun {S X Wx st c} G hp h => ?_, fun {S X Wx st c} G hp h => ?_⟩
    · have hN : X.N.Nodup := by rw [G.eN]; exact G.nd
      cases st with
      | Return v p =>
        cases v with
        | none => cases h; exact PS.imp ps_retN fun D σ H q => cs_retN q
        | some e =>
          replace h : (trE T N n S e).map CS.ret = some c := h
          obtain ⟨ca, e1, rfl⟩ := some_map h
          exact PS.imp (ps_ret ((J n).e G e1)) fun D σ H q => cs_ret q
      | Pass p => cases h; exact PS.imp ps_pass fun D σ H q => cs_pss q
      | Break p => cases h; exact PS.imp ps_break fun D σ H q => cs_brk q
      | Continue p => cases h; exact PS.imp ps_continue fun D σ H q => cs_ct q
      | Expr e p =>
        replace h : (if isComp e then none else (trE T N n S e).map CS.ex) = some c := h
        split at h
        · cases h
        · rename_i hc
          obtain ⟨ca, e1, rfl⟩ := some_map h
          exact PS.imp (ps_expr ((J n).e G e1) (sw_none (by simpa using hc) _ _)) fun D σ H q => cs_ex q
      | If t a b p =>
        replace h : (match trE T N n S t, trB T N n S a, trB T N n S b with
          | some t, some a, some b => some (CS.ife t a b)
          | _, _, _ => none) = some c := h
        split at h
        · rename_i ct ca cb e1 e2 e3
          cases h
          exact PS.imp (ps_if ((J n).t G e1) (ih.b G hp e2) (ih.b G hp e3)) fun D σ H q => cs_ifs q
        · cases h
      | For tg it b orelse p =>
        cases orelse with
        | cons _ _ => cases h
        | nil =>
          replace h : (match trTgt N S tg, trI T N n S it, trB T N n S b with
            | some tg, some it, some b => some (CS.for_ tg it b)
            | _, _, _ => none) = some c := h
          split at h
          · rename_i ct ca cb e1 e2 e3
            cases h
            obtain ⟨hi, hs⟩ := (J n).i G e2
            exact PS.imp (ps_for hp G.calm (hi tg) (pg_ok G e1) (ih.b G hp e3) hs) fun D σ H q => cs_for q
          · cases h
      | While t b orelse p =>
        cases orelse with
        | cons _ _ => cases h
        | nil =>
          replace h : (match trE T N n S t, trB T N n S b with
            | some t, some b => some (CS.whl t b)
            | _, _ => none) = some c := h
          split at h
          · rename_i ct cb e1 e3
            cases h
            exact PS.imp (ps_while hp ((J n).t G e1) (ih.b G hp e3)) fun D σ H q => cs_whl G.loop q
          · cases h
      | Assign tgs e p =>
        cases tgs with
        | nil => cases h
        | cons tg r =>
          cases r with
          | cons _ _ =>
            cases tg with
            | Subscript o k p2 => cases o <;> cases h
            | Tuple ts kt pt => first | (cases h; done) | (cases e <;> cases h)
            | _ => cases h
          | nil =>
            cases tg with
            | Name x px =>
              replace h : (match tgtOf N S x, trE T N n S e with
                | some i, some e => some (CS.set i e)
                | _, _ => none) = some c := h
              split at h
              · rename_i i ce e1 e2
                cases h
                exact tr_set G e1 e2
              · cases h
            | Subscript o k p2 =>
              cases o with
              | Name y py =>
                replace h : (match slotOf N S y, trE T N n S k, trE T N n S e with
                  | some i, some k, some e => some (CS.dput i k e)
                  | _, _, _ => none) = some c := h
                split at h
                · rename_i i ck ce e1 e2 e3
                  cases h
                  exact PS.imp (ps_dput (by have := G.un; omega) (pe_slot G e1) ((J n).e G e2) ((J n).e G e3) (sw_sub _ _)) fun D σ H q => cs_dput q
                · cases h
              | _ => cases h
            | Tuple ts kt pt =>
              by_cases ht : ∃ vs k2 p2, e = .Tuple vs k2 p2
              · obtain ⟨vs, k2, p2, rfl⟩ := ht
                replace h : (if ts.length == vs.length && ts.length == 2 && allLocal S.sc ts && sameLine ts && !vs.all (foldedForSure 8) && !vs.all (constantsAlone 8) then
                  match trTgts N S ts, trEs T N n S vs with
                  | some [i, j], some (.cons a (.cons b .nil)) => if i == j then none else some (CS.par i j a b)
                  | _, _ => none
                else match trTgts N S ts, trEs T N n S vs with
                  | some is, some es => if vs.all (foldedForSure 8) then some (.tset (.tup is) (.tup es)) else none
                  | _, _ => none) = some c := h
                split at h
                · rename_i hc
                  simp only [Bool.and_eq_true, Bool.not_eq_true'] at hc
                  split at h
                  · rename_i i j a b e1 e2
                    split at h
                    · cases h
                    · rename_i hij
                      cases h
                      obtain ⟨x, px, y, py, rfl, h1, h2⟩ := tgts_two e1
                      obtain ⟨ea, eb, m, k, rfl, h3, h4⟩ := trEs_two e2
                      obtain ⟨x1, x2, x3, x4⟩ := tgt_ok G h1
                      obtain ⟨y1, y2, y3, y4⟩ := tgt_ok G h2
                      have hij' : i ≠ j := fun z => hij (by rw [z]; exact beq_self_eq_true j)
                      have hxy : x ≠ y := fun z => by
                        rw [z, h2] at h1
                        cases h1
                        exact hij' rfl
                      have hal : (S.sc.names.lookup x == some .local && (S.sc.names.lookup y == some .local && true)) = true := hc.1.1.1.2
                      simp only [Bool.and_eq_true] at hal
                      have hx : X.env.scope.names.lookup x = some .local := by rw [G.sc]; exact beq_of hal.1
                      have hy : X.env.scope.names.lookup y = some .local := by rw [G.sc]; exact beq_of hal.2.1
                      have hsl : ((py.line == px.line) && true) = true := hc.1.1.2
                      rw [Bool.and_true] at hsl
                      have hw := stores_par (kt := kt) (k2 := k2) (pt := pt) (pt2 := p2) G hx hy hxy hsl (tr_isStar h3) (tr_isStar h4) hc.1.2 hc.2
                      have ha := (J m).e G h3
                      have hb := (J k).e G h4
                      exact PS.imp (ps_par G.calm hN x1 y1 hij' hx hy (pa_cons ha (pa_cons hb pa_nil (tr_noStar h4 [] X.env)) (tr_noStar h3 [eb] X.env)) hw (@sw_tuple (.Tuple [ea, eb] k2 p2) [.Name x px, .Name y py] kt pt p.line X.env)) fun D σ H q => cs_par q
                  · cases h
                · split at h
                  · rename_i is es e1 e2
                    split at h
                    · rename_i hf
                      cases h
                      exact tr_asgT G e1 (PE.imp (pe_tup ((J n).es G e2)) fun σ H Q q => cs_tup q) (stores_folded X.env hf)
                    · cases h
                  · cases h
              · have h2 : (match trTgts N S ts, trE T N n S e with
                  | some is, some e => some (CS.tset (.tup is) e)
                  | _, _ => none) = some c := by
                  cases e with
                  | Tuple vs k2 p2 => exact absurd ⟨vs, k2, p2, rfl⟩ ht
                  | _ => exact h
                split at h2
                · rename_i is ce e1 e2
                  cases h2
                  exact tr_asgT G e1 ((J n).e G e2) (stores_none X.env fun vs k p z => ht ⟨vs, k, p, z⟩)
                · cases h2
            | _ => cases h
      | _ => cases h
    · cases st with
      | nil => cases h; exact PSs.imp pss_nil fun D σ H q => cs_snil q
      | cons a r =>
        replace h : (match trS T N n S a, trB T N n S r with
          | some a, some r => some (CSs.cons a r)
          | _, _ => none) = some c := h
        split at h
        · rename_i ca cr e1 e2
          cases h
          exact PSs.imp (pss_cons (ih.s G hp e1) (ih.b G hp e2)) fun D σ H q => cs_scons q
        · cases h
end
end GS

/-! GS20: a def keeps its promise. -/
namespace GS
open PySem PySem.Spec PyProof.Rows L2

section
variable {K : PySem.W.Frag} {mg : Str → Option Value} {W : Addr → Prop} {H : Hp}
theorem ArgR.len {as : List AV} {vs : List V} (h : ArgR K mg W H as vs) : as.length = vs.length := by
  induction h with
  | nil => rfl
  | d _ _ ih => exact congrArg Nat.succ ih
  | io _ _ _ ih => exact congrArg Nat.succ ih
theorem ArgR.at {as : List AV} {vs : List V} (h : ArgR K mg W H as vs) : ∀ {i : Nat} {a : AV}, as[i]? = some a → ∃ v, vs[i]? = some v ∧ match a with
    | .d x => Rep K mg W H x v
    | .io o => ∃ p, v = .ref p ∧ ObAt K mg W H p o ∧ W p := by
  induction h with
  | nil => intro i a e; simp at e
  | d h _ ih =>
    intro i a e
    cases i with
    | zero => simp at e; subst e; exact ⟨_, rfl, h⟩
    | succ i => obtain ⟨v, h1, h2⟩ := ih (i := i) (by simpa using e); exact ⟨v, by simpa using h1, h2⟩
  | io h w _ ih =>
    intro i a e
    cases i with
    | zero => simp at e; subst e; exact ⟨_, rfl, _, rfl, h, w⟩
    | succ i => obtain ⟨v, h1, h2⟩ := ih (i := i) (by simpa using e); exact ⟨v, by simpa using h1, h2⟩
/-- one argument is lent, or none -/
theorem lent_none {as : List AV} {vs : List V} (h : ArgR K mg W H as vs) (n : ∀ (i : Nat) o, as[i]? ≠ some (.io o)) : lentA as vs = none := by
  induction h with
  | nil => rfl
  | d _ _ ih => exact ih fun i o e => n (i + 1) o (by simpa using e)
  | io _ _ _ _ => exact absurd rfl (n 0 _)
theorem lent_some {as : List AV} {vs : List V} (h : ArgR K mg W H as vs) : ∀ {j : Nat} {o : Ob}, as[j]? = some (.io o) → (∀ (i : Nat) o, as[i]? = some (.io o) → i = j) → ∃ p, vs[j]? = some (.ref p) ∧ lentA as vs = some p ∧ ObAt K mg W H p o ∧ W p := by
  induction h with
  | nil => intro j o e; simp at e
  | d _ _ ih =>
    intro j o e u
    cases j with
    | zero => simp at e
    | succ j =>
      obtain ⟨p, h1, h2⟩ := ih (j := j) (by simpa using e) fun i o e => Nat.succ.inj (u (i + 1) o (by simpa using e))
      exact ⟨p, by simpa using h1, h2⟩
  | io h w _ ih =>
    intro j o e u
    cases j with
    | zero => simp at e; subst e; exact ⟨_, rfl, rfl, h, w⟩
    | succ j => exact absurd (u 0 _ rfl) (by omega)
theorem ioFits_ok {as : List AV} {io : Option Nat} (h : ioFits as io = true) : (∀ (i : Nat) o, as[i]? = some (.io o) → io = some i) ∧ (∀ j, io = some j → ∃ o, as[j]? = some (.io o)) := by
  unfold ioFits at h
  rw [Bool.and_eq_true, List.all_eq_true] at h
  refine ⟨fun i o e => ?_, fun j e => ?_⟩
  · have hl : i < as.length := (List.getElem?_eq_some_iff.mp e).1
    have := h.2 i (List.mem_range.mpr hl)
    rw [e] at this
    simpa using this
  · subst e
    have hl : j < as.length := by simpa using h.1
    have := h.2 j (List.mem_range.mpr hl)
    cases q : as[j]? with
    | none => rw [List.getElem?_eq_none_iff] at q; omega
    | some a =>
      rw [q] at this
      cases a with
      | io o => exact ⟨o, rfl⟩
      | d d => simp at this
theorem startS_at {n : Nat} {as : List AV} {i : Nat} : (startS n as)[i]? = match as[i]? with
    | some a => some (slOf a)
    | none => if i < as.length + (n - as.length) then some .emp else none := by
  unfold startS
  cases e : as[i]? with
  | some a =>
    have hl : i < as.length := (List.getElem?_eq_some_iff.mp e).1
    rw [List.getElem?_append_left (by simpa using hl), List.getElem?_map, e]
    rfl
  | none =>
    have hl : as.length ≤ i := List.getElem?_eq_none_iff.mp e
    rw [List.getElem?_append_right (by simpa using hl), List.getElem?_replicate]
    simp only [List.length_map]
    by_cases h : i < as.length + (n - as.length)
    · rw [if_pos (by omega), if_pos h]
    · rw [if_neg (by omega), if_neg h]
theorem start_at {N : List Str} {vs : List V} {i : Nat} {v : V} (h : vs[i]? = some v) : (L2.start N vs)[i]? = some (some v) := by
  unfold L2.start
  have hl : i < vs.length := (List.getElem?_eq_some_iff.mp h).1
  rw [List.getElem?_append_left (by simpa using hl), List.getElem?_map, h]
  rfl
/-- the words of the callee -/
def inW (W : Addr → Prop) (l : Option Addr) : Addr → Prop := fun a => W a ∧ l ≠ some a
structure Entry (K : PySem.W.Frag) (mg : Str → Option Value) (W : Addr → Prop) (H : Hp) (N : List Str) (n : Nat) (io : Option Nat) (as : List AV) (vs : List V) : Prop where
  rel : Rel K mg (inW W (lentA as vs)) (startS n as) (L2.start N vs) H
  own : ∀ a, OwnP (startS n as) (L2.start N vs) a ↔ lentA as vs = some a
  lw : ∀ p, lentA as vs = some p → W p
  io : match io with
    | none => lentA as vs = none
    | some j => ∃ p, lentA as vs = some p ∧ isIo (startS n as)[j]? = true ∧ (L2.start N vs)[j]? = some (some (.ref p))
theorem entry {N : List Str} {n : Nat} {io : Option Nat} {as : List AV} {vs : List V} (t : ∀ a, W a → H a ≠ none) (h : ArgR K mg W H as vs) (hf : ioFits as io = true) (hn : n = N.length) (hl : as.length ≤ n) : Entry K mg W H N n io as vs := by
  obtain ⟨f1, f2⟩ := ioFits_ok hf
  have ln := h.len
  have at1 : ∀ {i : Nat} {x : Sl}, (startS n as)[i]? = some x → x ≠ .emp → ∃ a, as[i]? = some a ∧ x = slOf a := fun {i x} e ne => by
    rw [startS_at] at e
    cases q : as[i]? with
    | some a => rw [q] at e; cases e; exact ⟨a, rfl, rfl⟩
    | none =>
      rw [q] at e
      simp only at e
      split at e
      · cases e; exact absurd rfl ne
      · cases e
  have own1 : ∀ {i : Nat}, isOwn (startS n as)[i]? = true → ∃ o, as[i]? = some (.io o) := fun {i} e => by
    cases q : (startS n as)[i]? with
    | none => rw [q] at e; cases e
    | some x =>
      rw [q] at e
      obtain ⟨a, h1, h2⟩ := at1 q (fun z => by rw [z] at e; cases e)
      cases a with
      | io o => exact ⟨o, h1⟩
      | d d => rw [h2] at e; cases e
  have uniq : ∀ {j : Nat} {o : Ob}, as[j]? = some (.io o) → ∀ (i : Nat) o', as[i]? = some (.io o') → i = j := fun {j o} e i o' e' => by
    have h1 := f1 j o e
    have h2 := f1 i o' e'
    rw [h1] at h2
    exact (Option.some.inj h2).symm
  have own : ∀ a, OwnP (startS n as) (L2.start N vs) a ↔ lentA as vs = some a := fun a => by
    constructor
    · rintro ⟨i, h1, h2⟩
      obtain ⟨o, ho⟩ := own1 h1
      obtain ⟨p, q1, q2, _⟩ := lent_some h ho (uniq ho)
      rw [start_at q1] at h2
      cases h2
      exact q2
    · intro e
      have ex : ∃ (j : Nat) (o : Ob), as[j]? = some (.io o) := by
        apply Classical.byContradiction
        intro z
        have := lent_none h fun i o e => z ⟨i, o, e⟩
        rw [this] at e
        cases e
      obtain ⟨j, o, hj⟩ := ex
      obtain ⟨p, q1, q2, _⟩ := lent_some h hj (uniq hj)
      rw [e] at q2
      cases q2
      exact ⟨j, by rw [startS_at, hj]; rfl, start_at q1⟩
  have lw : ∀ p, lentA as vs = some p → W p := fun p e => by
    obtain ⟨j, h1, h2⟩ := (own p).mpr e
    obtain ⟨o, ho⟩ := own1 h1
    obtain ⟨p', q1, q2, q3, q4⟩ := lent_some h ho (uniq ho)
    rw [e] at q2
    cases q2
    exact q4
  have wf : ∀ a, Wf (inW W (lentA as vs)) (startS n as) (L2.start N vs) a → W a := fun a z => z.elim And.left fun z => lw a ((own a).mp z)
  have k : Keep W H (Wf (inW W (lentA as vs)) (startS n as) (L2.start N vs)) H := ⟨fun _ _ h _ => h, fun a z => .inl (wf a z)⟩
  refine ⟨⟨?_, fun a z => t a z.1, fun i d e => ?_, fun i o e => ?_, fun i j a h1 h2 _ _ => ?_⟩, own, lw, ?_⟩
  · unfold startS L2.start
    rw [List.length_append, List.length_append, List.length_map, List.length_map, List.length_replicate, List.length_replicate]
    omega
  · obtain ⟨a, h1, h2⟩ := at1 e (fun z => by cases z)
    cases a with
    | io o => cases h2
    | d d' =>
      cases h2
      obtain ⟨v, h3, h4⟩ := h.at h1
      exact ⟨v, start_at h3, h4.mv k⟩
  · obtain ⟨o', ho⟩ := own1 (own_is e)
    obtain ⟨p, q1, q2, q3, q4⟩ := lent_some h ho (uniq ho)
    have : o' = o := by
      unfold ownAt at e
      rw [startS_at, ho] at e
      cases e
      rfl
    subst this
    exact ⟨p, start_at q1, fun z => z.2 q2, q3.mv k fun _ h => h⟩
  · obtain ⟨o1, e1⟩ := own1 h1
    obtain ⟨o2, e2⟩ := own1 h2
    exact uniq e2 i o1 e1
  · cases io with
    | none =>
      exact lent_none h fun i o e => by cases f1 i o e
    | some j =>
      obtain ⟨o, ho⟩ := f2 j rfl
      obtain ⟨p, q1, q2, _⟩ := lent_some h ho (uniq ho)
      exact ⟨p, q2, by rw [startS_at, ho]; rfl, start_at q1⟩
/-- what is so at a def's end -/
theorem exit {N : List Str} {n : Nat} {io : Option Nat} {as : List AV} {vs : List V} {s' : Ev} {σ' : L2.St} {H' : Hp} {v : RV} {w : V} (E : Entry K mg W H N n io as vs) (m : Mv (startS n as) (L2.start N vs) H s' σ' H') (r : RetR K mg (inW W (lentA as vs)) (startS n as) (L2.start N vs) H v s' σ' w H') :
    PostC K mg W H (lentA as vs) v (outOf s' io) w H' := by
  have keep : ∀ a u, H a = some u → lentA as vs ≠ some a → H' a = some u := fun a u h n => m.keep a u h fun z => n ((E.own a).mp z)
  -- the lent object stands
  have lent : ∀ p, lentA as vs = some p → ∃ j, io = some j ∧ isIo s'[j]? = true ∧ σ'[j]? = some (some (.ref p)) := fun p e => by
    have h := E.io
    cases io with
    | none => rw [e] at h; cases h
    | some j =>
      obtain ⟨p', h1, h2, h3⟩ := h
      rw [e] at h1
      cases h1
      obtain ⟨h4, h5⟩ := m.io j h2
      exact ⟨j, rfl, h4, h5.trans h3⟩
  have isO : ∀ {x : Option Sl}, isIo x = true → isOwn x = true := fun {x} h => by
    cases x with
    | none => cases h
    | some x => cases x <;> first | rfl | cases h
  have wIn : ∀ a, W a → Wf (inW W (lentA as vs)) s' σ' a := fun a z => by
    by_cases e : lentA as vs = some a
    · obtain ⟨j, _, h1, h2⟩ := lent a e
      exact .inr ⟨j, isO h1, h2⟩
    · exact .inl ⟨z, e⟩
  have out : ∀ {W1 W2 : Addr → Prop}, Rel K mg W1 s' σ' H' → (∀ a, W2 a → Wf W1 s' σ' a) → OutR K mg (lentA as vs) (outOf s' io) H' W2 := fun {W1 W2} R k => by
    cases e : lentA as vs with
    | none =>
      have h := E.io
      cases io with
      | none => exact True.intro
      | some j =>
        obtain ⟨p, h1, _⟩ := h
        rw [e] at h1
        cases h1
    | some p =>
      obtain ⟨j, rfl, h1, h2⟩ := lent p e
      obtain ⟨o, ho⟩ := is_own (isO h1)
      obtain ⟨a, h3, h4, h5⟩ := R.own j o ho
      rw [h2] at h3
      cases h3
      show OutR K mg (some p) (ownAt s' j) H' W2
      rw [ho]
      exact h5.mv ⟨fun _ _ h _ => h, fun a z => .inl (k a z)⟩ fun _ h => h
  refine ⟨keep, m.trk, ?_⟩
  cases v with
  | d d =>
    obtain ⟨R, r⟩ := r
    exact ⟨W, ⟨rfl, r.mv ⟨fun _ _ h _ => h, fun a z => .inl (wIn a z)⟩⟩, out R wIn⟩
  | sl i => exact r.elim
  | own o =>
    obtain ⟨q, rfl, h1, h2, h3, R, ob⟩ := r
    have nq : H q = none := h1.elim (fun z => by
      obtain ⟨j, _, h4, h5⟩ := lent q ((E.own q).mp z)
      exact absurd ⟨j, isO h4, h5⟩ h3) id
    have w2 : ∀ a, plus W q a → Wf (plus (inW W (lentA as vs)) q) s' σ' a := fun a z => z.elim (fun z => (wIn a z).imp .inl id) fun z => .inl (.inr z)
    exact ⟨plus W q, ⟨q, rfl, nq, rfl, ob.mv ⟨fun _ _ h _ => h, fun a z => .inl (w2 a z)⟩ fun _ h => h⟩, out R w2⟩
end
end GS

/-! GS21: all defs of the module, by the level of the calls. -/
namespace GS
open PySem PySem.Spec PyProof.Rows L2

section
variable {P : Program} {w : World} {K : PySem.W.Frag} {mg : Str → Option Value} {base : Heap}
/-- the wish behind a body, read as the wish behind the call -/
theorem leave_def {X : Cx} {Q : VK} {fl : Flow} {t : Shared} (h : SP X [] { nx := fun _ H' => Q .non H', rt := Q } fl t) :
    (∃ u, (fl = .ret u ∨ (fl = .next ∧ u = Value.none)) ∧ ∃ v H', t.os = X.s_0.os ∧ AllBare t.gens ∧ Un X.fs X.ex X.H_0 H' X.s_0.heap t.heap ∧ HOk X.prog X.w H' t.heap ∧ RelV v u ∧ Q v H') := by
  cases fl
  case ret u =>
    rcases h with ⟨v, _, H', J, rel, q⟩
    exact ⟨u, .inl rfl, v, H', J.os, J.bare, J.base, J.hok, rel, q⟩
  case next =>
    rcases h with ⟨_, H', J, q⟩
    exact ⟨.none, .inr ⟨rfl, rfl⟩, .non, H', J.os, J.bare, J.base, J.hok, rfl, q⟩
  case brk => rcases h with ⟨_, _, _, q⟩; exact q.elim
  case cont => rcases h with ⟨_, _, _, q⟩; exact q.elim
theorem fun_okG {x qual : Str} {params : Arguments} {body : List Stmt} {scope : Scope} {dvs : List V} {kws : List (Str × V)} {f : Addr} {fd : FuncData} {N ps : List Str} {k : Nat} {sp : Sp} (F : FunD K x qual params body scope dvs kws f fd) (S : FnScope N ps scope) (len : ∀ vs H Q E, sp vs H Q E → vs.length = ps.length)
    (hbody : ∀ (cdv : Value) (A : Around) (outer : List Env) (s : Shared) (H : Hp) (vs : List V) (Q : VK) (E : XK), Room k (A.deeper (envOfC qual scope s.heap.objs.size f cdv)) → A.guards = some [] → sp vs H Q E →
      ∃ t, L2.PSs (cxOf (L2.CX P w) P w K mg base N qual scope f cdv A outer s H E) body t ∧ t { nx := fun _ H' => Q .non H', rt := Q } (L2.start N vs) H) : FnG P w K mg base (k + 1) f fd ps sp where
  run := by
    intro A outer t H args us vs Q E room guards here bound rel want
    rcases F.ex with ⟨_, _, _, _, _, _, _, cdv, _, _, rfl, stands, code, _⟩
    have inT : ∀ {a o}, base.get? a = some o → t.heap.get? a = some o := fun q => (here.bs _ _ q).1
    have kT : K.In t.heap := here.mod.kin.keeps fun _ _ => inT
    rcases hbody cdv A outer t H vs Q E (room.deeper _) guards want with ⟨rd, walk, goal⟩
    refine codeAny_call_function room.depth (kT _ _ stands) rfl S.co S.gen rfl (PySem.W.codeRec_of kT code) ?_
    refine bound _ _ _ _ (wpAny_newFunctionEnv_cells S.kind ?kinds fun env made t1 entered => ?enter)
    case kinds =>
      intro y mem
      exact (S.par y.1 (List.of_mem_zip mem).1).imp id fun c => ⟨c, PySem.W.cellsFrom_some _ _ _ (.inl c)⟩
    case enter =>
      cases made
      refine ⟨(here.mod.nolimit.keeps fun _ _ => inT).keeps entered.toInCall.keep, codeAny_func ?_⟩
      have start := inv_start (CX := L2.CX P w) (P := P) (w := w) (cd := cdv) (E := E) S room.hd here (len _ _ _ _ want) rel entered
      refine wpAny_mono (walk.run [] t1 _ H _ start goal) (fun fl t2 over => ?_) (fun _ _ out => out)
      rcases leave_def over with ⟨u, rfl | ⟨rfl, rfl⟩, done⟩
      · exact done
      · exact done
/-- a def of the module, and its core -/
structure Def where
  name : Str
  qual : Str
  params : Arguments
  body : List Stmt
  scope : Scope
  N : List Str
  ps : List Str
  io : Option Nat
  fuel : Nat
  core : CSs
/-- how it stands in the tree -/
structure DefOk (T : Tabs) (p : Prog) (K : PySem.W.Frag) (mg : Str → Option Value) (d : Def) : Prop where
  fs : p.fs d.name = some ⟨d.N.length, d.ps.length, d.io, d.core⟩
  sc : FnScope d.N d.ps d.scope
  tr : trB T d.N d.fuel ⟨d.scope, fun _ => true⟩ d.body = some d.core
  at_ : ∃ dvs kws fa fd, FunD K d.name d.qual d.params d.body d.scope dvs kws fa fd ∧ mg d.name = some (.ref fa)
/-- the module as the proof needs it -/
structure Wld (T : Tabs) (p : Prog) (K : PySem.W.Frag) (mg : Str → Option Value) (ds : List Def) : Prop where
  ok : ∀ d ∈ ds, DefOk T p K mg d
  loop : p.Λ = whileW
  free : ∀ x, T.free.contains x = true → mg x = none
  con : ∀ x, T.con.contains x = true → ∃ v u, mg x = some u ∧ RelV v u ∧ ∀ d, p.G x = some d → ∀ W H, Rep K mg W H d v
  bind : ∀ f g m ks ps, T.sig.lookup f = some g → T.pats.contains (f, m, ks) = true → permOf g m ks = some ps → ∃ d ∈ ds, d.name = f ∧ ∃ (dvs : List V) (kws : List (Str × V)) (fa : Addr) (fd : FuncData) (gg : List Value → List Value → List Value) (gV : List V → List V → List V),
    FunD K d.name d.qual d.params d.body d.scope dvs kws fa fd ∧ mg d.name = some (.ref fa) ∧ KBn K fd d.ps m ks gg gV ∧ ∀ vs zs, vs.length = m → zs.length = ks.length → gV vs zs = permV ps (vs ++ zs) ∧ (gV vs zs).length = d.ps.length
theorem sp_stuck {n : Nat} {vs : List V} {H : Hp} {Q : VK} {E : XK} (h : spF K mg n (fun _ => .stuck) vs H Q E) : False := by
  obtain ⟨_, W, as, _, _, h⟩ := h
  exact h
theorem body_ok {T : Tabs} {p : Prog} {d : Def} {k : Nat} (D : DefOk T p K mg d) {as : List AV} {vs : List V} {W : Addr → Prop} {H : Hp} {Q : VK} {E : XK} (hl : vs.length = d.ps.length) (t : ∀ a, W a → H a ≠ none) (ha : ArgR K mg W H as vs)
    (h : match run p (k + 1) d.name as with
      | .ok v out => ∀ w H', PostC K mg W H (lentA as vs) v out w H' → Q w H'
      | .er x out => ∀ c d H', PostCX K mg W H (lentA as vs) x out c d H' → E c d H'
      | .stuck => False) : tB ⟨run p k, p.Λ, p.G⟩ K mg (fun c d _ H => E c d H) d.core { nx := fun _ H' => Q .non H', rt := Q } (L2.start d.N vs) H := by
  have e : run p (k + 1) d.name as = if decide (as.length = d.ps.length) && decide (d.ps.length ≤ d.N.length) && ioFits as d.io then endF d.io (exB ⟨run p k, p.Λ, p.G⟩ d.core (startS d.N.length as)) else .stuck := by
    show (match p.fs d.name with
      | some fd => if decide (as.length = fd.ps) && decide (fd.ps ≤ fd.n) && ioFits as fd.io then endF fd.io (exB ⟨run p k, p.Λ, p.G⟩ fd.body (startS fd.n as)) else .stuck
      | none => .stuck) = _
    rw [D.fs]
  rw [e] at h
  by_cases hc : (decide (as.length = d.ps.length) && decide (d.ps.length ≤ d.N.length) && ioFits as d.io) = true
  · rw [if_pos hc] at h
    simp only [Bool.and_eq_true, decide_eq_true_eq] at hc
    have en := entry (N := d.N) t ha hc.2 rfl (by omega)
    refine ⟨inW W (lentA as vs), startS d.N.length as, en.rel, ?_⟩
    cases r : exB ⟨run p k, p.Λ, p.G⟩ d.core (startS d.N.length as) with
    | stuck => rw [r] at h; exact h
    | er x s' =>
      rw [r] at h
      intro c dd σ' H' m R xn
      have ex := exit (v := .d .none) (w := .non) en m ⟨R, .non⟩
      refine h c dd H' ⟨ex.keep, ex.trk, xn, ?_⟩
      obtain ⟨W2, ⟨rfl, _⟩, o⟩ := ex.rep
      exact o
    | ok fl s' =>
      rw [r] at h
      cases fl with
      | nx => exact fun σ' H' m R => h .non H' (exit (v := .d .none) (w := .non) en m ⟨R, .non⟩)
      | brk => exact h.elim
      | ct => exact h.elim
      | ret v => exact fun w σ' H' m R => h w H' (exit en m R)
  · rw [if_neg hc] at h
    exact h.elim
theorem levels {T : Tabs} {p : Prog} {ds : List Def} (Wd : Wld T p K mg ds) : ∀ (k : Nat) (d : Def), d ∈ ds → ∀ {dvs : List V} {kws : List (Str × V)} {fa : Addr} {fd : FuncData}, FunD K d.name d.qual d.params d.body d.scope dvs kws fa fd →
    FnG P w K mg base k fa fd d.ps (spF K mg d.ps.length (run p k d.name)) := by
  intro k
  induction k with
  | zero => exact fun d hd dvs kws fa fd F => ⟨fun A outer s H args us vs Q E hr hg e0 hb r hsp => (sp_stuck (show spF K mg d.ps.length (fun _ => .stuck) vs H Q E from hsp)).elim⟩
  | succ k ih =>
    intro d hd dvs kws fa fd F
    have D := Wd.ok d hd
    refine fun_okG F D.sc (fun vs H Q E h => h.1) fun cdv A outer s H vs Q E hr hg hsp => ?_
    obtain ⟨hl, W, as, t, ha, h⟩ := hsp
    refine ⟨tB ⟨run p k, p.Λ, p.G⟩ K mg (fun c d _ H => E c d H) d.core, ?_, body_ok D hl t ha h⟩
    have G : Gd T d.N ⟨run p k, p.Λ, p.G⟩ ⟨d.scope, fun _ => true⟩ (cxOf (L2.CX P w) P w K mg base d.N d.qual d.scope fa cdv A outer s H E) (fun c d _ H => E c d H) := by
      refine ⟨rfl, D.sc.nd, D.sc.kind, rfl, rfl, rfl, hg, ?_, Wd.loop, Wd.free, Wd.con, fun f g m ks ps h1 h2 h3 => ?_, ?_⟩
      · have := hr.un
        show (A.deeper _).units + 200 < cLine
        omega
      · obtain ⟨d', hd', rfl, dvs', kws', fa', fd', gg, gV, F', hm', hb', hV⟩ := Wd.bind f g m ks ps h1 h2 h3
        exact ⟨fa', fd', d'.ps, k, gg, gV, hm', F'.kp, ih d' hd' F', hr, hb', hV⟩
      · exact takes_of (X := cxOf (L2.CX P w) P w K mg base d.N d.qual d.scope fa cdv A outer s H E) rfl rfl rfl rfl
    exact (trSOk d.fuel).b G (passes_of rfl) D.tr
end
end GS

/-! GS22: the law's call, from the evaluator's answer. -/
namespace GS
open PySem PySem.Spec PyProof.Rows L2

section
variable {P : Program} {w : World} {K : PySem.W.Frag} {mg mb : Str → Option Value} {a : Addr} {vs : List Value} {ns : List Int} {t : Shared}
abbrev scrOb (vs : List Value) : Obj := { cls := .type "list", data := .seq vs.toArray }
/-- all that is tracked at the call: the script, locked, unless it is the module's own -/
def scr (K : PySem.W.Frag) (a : Addr) (vs : List Value) (ns : List Int) : Hp := fun b => if b = a ∧ (K.lookup a).isNone = true then some (.frz (scrOb vs) (.lst (ns.map V.int))) else none
theorem scr_is {b : Addr} {u : HO} (h : scr K a vs ns b = some u) : b = a ∧ (K.lookup a).isNone = true ∧ u = .frz (scrOb vs) (.lst (ns.map V.int)) := by
  unfold scr at h
  split at h
  · rename_i c
    exact ⟨c.1, c.2, (Option.some.inj h).symm⟩
  · cases h
theorem scr_off {b : Addr} (h : b ≠ a) : scr K a vs ns b = none := if_neg fun c => h c.1
theorem scr_ok (there : t.heap.get? a = some (scrOb vs)) (nums : IntsAre vs ns) (small : ns.length ≤ sizeLine) : HOk P w (scr K a vs ns) t.heap := fun b u h => by
  obtain ⟨rfl, _, rfl⟩ := scr_is h
  refine ⟨there, ?_, vs, _, vals_ints nums, there⟩
  rwa [List.length_map]
theorem scr_list (kt : K.In t.heap) (there : t.heap.get? a = some (scrOb vs)) (nums : IntsAre vs ns) (small : ns.length ≤ sizeLine) : SqL K (scr K a vs ns) a (ns.map V.int) := by
  by_cases own : (K.lookup a).isNone = true
  · exact .inl (.inr ⟨_, if_pos ⟨rfl, own⟩⟩)
  · obtain ⟨o, here⟩ := Option.ne_none_iff_exists'.mp fun z => own (Option.isNone_iff_eq_none.mpr z)
    obtain rfl : o = scrOb vs := Option.some.inj ((kt a o here).symm.trans there)
    have fit : vs.toArray.size ≤ sizeLine := by rw [List.size_toArray, nums.length]; exact small
    exact .inr ⟨_, vs.toArray, _, here, rfl, rfl, rfl, fit, by rw [List.toList_toArray]; exact vals_ints nums⟩
/-- an object that is not the script stands in the ground -/
theorem ground {b : Addr} {o : Obj} (at' : t.heap.get? b = some o) (free : scr K a vs ns b = none) : (hidT t.heap (scr K a vs ns)).get? b = some o := hidT_get at' free
theorem ground_ns {m : Str → Option Value} {b : Addr} (there : t.heap.get? a = some (scrOb vs)) (h : t.heap.Ns b m) : (hidT t.heap (scr K a vs ns)).Ns b m := by
  obtain ⟨o, es, ep, at', isDict, rest⟩ := h
  have ne : b ≠ a := fun z => by
    rw [z, there] at at'
    rw [← Option.some.inj at'] at isDict
    exact absurd isDict (by intro q; cases q)
  exact ⟨o, es, ep, ground at' (scr_off ne), isDict, rest⟩
theorem ground_k (kt : K.In t.heap) : K.In (hidT t.heap (scr K a vs ns)) := fun b o h => ground (kt b o h) (by
  cases q : scr K a vs ns b with
  | none => rfl
  | some u =>
    obtain ⟨rfl, none', _⟩ := scr_is q
    rw [h] at none'
    cases none')
/-- the state at the law's call -/
theorem call_env (kt : K.In t.heap) (gl : t.heap.Ns mainGlobals mg) (bl : t.heap.Ns builtinsNs mb) (boot : ∀ x : Str, x ≠ "__name__" → mb x = bootBuiltins x) (lim : t.heap.NoLimit) (quiet : t.gens = #[])
    (there : t.heap.get? a = some (scrOb vs)) (nums : IntsAre vs ns) (small : ns.length ≤ sizeLine) : Env0 P w K mg (hidT t.heap (scr K a vs ns)) callerA [] t (scr K a vs ns) where
  frames := rfl
  mod := ⟨ground_k kt, ground_ns there gl, ⟨mb, ground_ns there bl, boot⟩, lim.imp fun _ z => ⟨ground_ns there z.1, z.2⟩⟩
  bs := fun _ _ => of_hidT
  bsz := by rw [hidT_size]; exact Nat.le_refl _
  funs := True.intro
  frf := fun b h => by cases h
  hok := scr_ok there nums small
  bare := .of_eq quiet
theorem call_law {k : Nat} {fa : Addr} {fd : FuncData} {x : Str} {f : List AV → FR} (kt : K.In t.heap) (gl : t.heap.Ns mainGlobals mg) (bl : t.heap.Ns builtinsNs mb) (boot : ∀ x : Str, x ≠ "__name__" → mb x = bootBuiltins x) (lim : t.heap.NoLimit) (quiet : t.gens = #[])
    (there : t.heap.get? a = some (scrOb vs)) (nums : IntsAre vs ns) (small : ns.length ≤ sizeLine) (room : Room k callerA) (F : ∀ base : Heap, FnG P w K mg base k fa fd [x] (spF K mg 1 f))
    (bound : ∀ (s : Shared) (u : Value), BindsTo s fd ⟨[u], []⟩ [(x, u)]) (yes : f [.d (.list (ns.map PyData.int))] = .ok (.d (.bool true)) none) :
    codeAny (model P w) callerA (.call (.ref fa) ⟨[.ref a], []⟩) (fun r s' => r = .ok (.ret (.bool true)) ∧ OldK t.heap s'.heap ∧ s'.os = t.os ∧ AllBare s'.gens) t := by
  have items : ∀ l : List Int, RepA K mg (fun _ => False) (scr K a vs ns) (l.map PyData.int) (l.map V.int) := fun l => by
    induction l with
    | nil => exact .nil
    | cons i r ih => exact .cons (.int i) ih
  have list : Rep K mg (fun _ => False) (scr K a vs ns) (.list (ns.map PyData.int)) (.ref a) := by
    refine .lst ?_ (items ns) (by rw [List.length_map]; exact small)
    rcases scr_list kt there nums small with h | h
    · exact .inl ⟨h, id⟩
    · exact .inr (.inr h)
  have wish : spF K mg 1 f [.ref a] (scr K a vs ns) (fun v _ => v = .bl true) (fun _ _ _ => False) := by
    refine ⟨rfl, fun _ => False, [.d (.list (ns.map PyData.int))], fun _ z => z.elim, .d list .nil, ?_⟩
    rw [yes]
    intro v H' C
    obtain ⟨_, ⟨_, r⟩, _⟩ := C.rep
    cases r
    rfl
  have promise := (F _).run callerA [] t _ ⟨[.ref a], []⟩ [.ref a] [.ref a] _ _ room rfl (call_env kt gl bl boot lim quiet there nums small) (bound t (.ref a)) (.cons rfl .nil) wish
  refine codeAny_mono promise fun r s' out => ?_
  match r, out with
  | .error _, ⟨_, _, _, _, _, _, _, _, _, _, _, _, no⟩ => exact no.elim
  | .ok (.ret u), ⟨v, H', os, bare, un, after, rel, q⟩ =>
    cases (show v = .bl true from q)
    cases (show u = .bool true from rel)
    refine ⟨rfl, .of_keep fun b o at' => ?_, os, bare⟩
    cases q : scr K a vs ns b with
    | none => exact un.keep b o at' q (by simp [frs]) (by simp)
    | some u =>
      obtain ⟨rfl, _, rfl⟩ := scr_is q
      rw [there] at at'
      cases at'
      exact (after b _ (un.frzs b _ _ q)).1
end
/-- the walk of the law -/
theorem walk_law {l : PySem.W.OpenLaw} {n k : Nat} {q : Program} {loose : List Str} {XP : (Str → Option Value) → Heap → Prop} {YP : World → Heap → Prop} {d : DefRec} {x : Str} (hn : l.most = some n) (hn2 : n ≤ sizeLine) (hdf : d.params.defaults = []) (hr : Room k callerA)
    (F : ∀ (w : World) (mg : Str → Option Value) (fa : Addr) (h : Heap), YP w h → h.Ns mainGlobals mg → mg d.name = some (.ref fa) →
      ∃ (K : PySem.W.Frag) (fd : FuncData) (f : List AV → FR), K.In h ∧ (∀ (s : Shared) (u : Value), BindsTo s fd ⟨[u], []⟩ [(x, u)]) ∧
        (∀ ns : List Int, ns.length ≤ n → f [.d (.list (ns.map PyData.int))] = .ok (.d (.bool true)) none) ∧ ∀ base : Heap, FnG l.prog w K mg base k fa fd [x] (spF K mg 1 f)) :
    PySem.W.WalkO q loose XP YP l.row.toRowW d [] (fun f vs => PySem.call f vs) :=
  Att.attach_call hn hdf fun w _ t mg _ fa _ _ _ _ a vs ns G Y _ _ _ isLaw there nums short quiet => by
    obtain ⟨K, fd, f, kt, bound, yes, ok⟩ := F w mg fa _ Y G.T.g isLaw
    exact call_law kt G.T.g G.T.b G.T.builtins G.T.nolimit quiet there nums (Nat.le_trans short hn2) hr ok bound (yes ns short)
end GS

/-! GS23: how calls bind. -/
namespace GS
open PySem PySem.Spec PyProof.Rows L2

theorem gd_rel {vs : List V} {us : List Value} (h : Vals vs us) : ∀ k : Nat, RelV (vs.getD k .non) (us.getD k .none) := by
  induction h with
  | nil => exact fun k => by cases k <;> rfl
  | cons r _ ih =>
    intro k
    cases k with
    | zero => exact r
    | succ k => exact ih k
section
variable {K : PySem.W.Frag} {x qual : Str} {params : Arguments} {body : List Stmt} {scope : Scope} {dvs : List V} {kws : List (Str × V)} {f : Addr} {fd : FuncData} {ps ks : List Str} {n : Nat}
/-- no default is asked -/
theorem kb_plain {g : List Value → List Value → List Value} {gV : List V → List V → List V} (F : FunD K x qual params body scope dvs kws f fd)
    (rel : ∀ {vs : List V} {us : List Value} {zs : List V} {ws : List Value}, Vals vs us → Vals zs ws → Vals (gV vs zs) (g us ws))
    (eq : ∀ (dV kV doc pm : Value) (an : Option Addr) (cdv ct : Value) (us ws : List Value), us.length = n → ws.length = ks.length → (dvs = [] → dV = .none) → bindArgs (PySem.W.fnOf x qual params body scope dV kV doc pm an cdv ct) ⟨us, ks.zip ws⟩ = pure (ps.zip (g us ws))) :
    KBn K fd ps n ks g gV := by
  rcases F.ex with ⟨_, _, dV, kV, doc, pm, an, cdv, ct, _, made, _, _, hD, _⟩
  subst made
  refine ⟨fun s us ws _ l1 l2 => .of_eq (eq dV kV doc pm an cdv ct us ws l1 l2 fun z => ?_), rel⟩
  exact hD.elim And.right fun q => absurd z q.1
/-- keyword-only defaults are asked: those of ms -/
theorem kb_kwd {g : List Value → List Value → List Value → List Value} {gV : List V → List V → List V → List V} (ms : List (Str × V)) (F : FunD K x qual params body scope [] kws f fd) (some' : kws ≠ []) (sub : ∀ q ∈ ms, q ∈ kws)
    (rel : ∀ {vs : List V} {us : List Value} {ds : List V} {mv : List Value} {zs : List V} {ws : List Value}, Vals vs us → Vals ds mv → Vals zs ws → Vals (gV vs ds zs) (g us mv ws))
    (eq : ∀ (D : Addr) (doc pm : Value) (an : Option Addr) (cdv ct : Value) (us mv ws : List Value), us.length = n → mv.length = ms.length → ws.length = ks.length →
      KwChain D ((ms.map (·.1)).zip mv) (bindArgs (PySem.W.fnOf x qual params body scope .none (.ref D) doc pm an cdv ct) ⟨us, ks.zip ws⟩) (ps.zip (g us mv ws))) :
    ∃ mv : List Value, KBn K fd ps n ks (fun us ws => g us mv ws) (fun vs zs => gV vs (ms.map (·.2)) zs) := by
  rcases F.ex with ⟨_, _, dV, kV, doc, pm, an, cdv, ct, _, made, _, _, hD, hK⟩
  subst made
  have noD : dV = .none := hD.elim And.right fun q => absurd rfl q.1
  subst noD
  rcases hK with e | ⟨D, rfl, holds⟩
  · exact absurd e some'
  · obtain ⟨mv, len, rels, looks⟩ := kwd_vals (ms := ms) fun q m => holds q (sub q m)
    exact ⟨mv, fun s us ws kt l1 l2 => L2.BindsTo.of_looks fun M => KwChain.looks kt looks (eq D doc pm an cdv ct us mv ws l1 len l2), fun r1 r2 => rel r1 rels r2⟩
end
end GS

/-! GS24: how the evaluator is reckoned with. -/
namespace GS
open PySem

theorem run_at {p : Prog} {f : Str} {fd : FD} (h : p.fs f = some fd) (k : Nat) (as : List AV) : run p (k + 1) f as = if decide (as.length = fd.ps) && decide (fd.ps ≤ fd.n) && ioFits as fd.io then endF fd.io (exB ⟨run p k, p.Λ, p.G⟩ fd.body (startS fd.n as)) else .stuck := by
  show (match p.fs f with | some fd => _ | none => _) = _
  rw [h]
/-- a def's run, the calls' oracle kept closed (else the compiler unfolds the callees) -/
theorem run_by {p : Prog} {f : Str} {fd : FD} {k : Nat} {as : List AV} {r : FR} (h : p.fs f = some fd)
    (hb : ∀ O : Ora, O.Φ = run p k → O.G = p.G → (if decide (as.length = fd.ps) && decide (fd.ps ≤ fd.n) && ioFits as fd.io then endF fd.io (exB O fd.body (startS fd.n as)) else .stuck) = r) : run p (k + 1) f as = r :=
  (run_at h k as).trans (hb ⟨run p k, p.Λ, p.G⟩ rfl rfl)
theorem run_ex {p : Prog} {f : Str} {fd : FD} {k : Nat} {as : List AV} (R : FR → Prop) (h : p.fs f = some fd)
    (hb : ∀ O : Ora, O.Φ = run p k → O.G = p.G → R (if decide (as.length = fd.ps) && decide (fd.ps ≤ fd.n) && ioFits as fd.io then endF fd.io (exB O fd.body (startS fd.n as)) else .stuck)) : R (run p (k + 1) f as) := by
  rw [run_at h]
  exact hb ⟨run p k, p.Λ, p.G⟩ rfl rfl
section
variable {α β : Type} {s : Ev}
theorem bind_ok (a : α) (s : Ev) (f : α → Ev → Rs β) : (Rs.ok a s).bind f = f a s := rfl
theorem opt_some (a : α) (s : Ev) : Rs.opt (some a) s = .ok a s := rfl
theorem set_back {i : Nat} {x : Sl} (h : s[i]? = some .emp) : (s.set i x).set i .emp = s := by
  rw [List.set_set]
  apply List.ext_getElem?
  intro j
  rw [List.getElem?_set]
  split
  · rename_i e
    subst e
    have hl := (List.getElem?_eq_some_iff.mp h).1
    rw [if_pos hl, h]
  · rfl
/-- a turn that leaves the slots as they were -/
theorem compL_nm {i : Nat} {tests : Ev → Rs Bool} {elt : Ev → Rs D} {t : D → Bool} {g : D → D} (hs : s[i]? = some .emp) : ∀ (xs acc : List D), (∀ x ∈ xs, tests (s.set i (.val x)) = .ok (t x) (s.set i (.val x)) ∧ (t x = true → elt (s.set i (.val x)) = .ok (g x) (s.set i (.val x)))) →
    acc.length + xs.length ≤ sizeLine → compL [i] (.nm i) tests elt xs acc s = .ok (acc ++ (xs.filter t).map g) s
  | [], acc, _, _ => by rw [List.filter_nil, List.map_nil, List.append_nil]; rfl
  | x :: xs, acc, h, hl => by
    obtain ⟨h1, h2⟩ := h x List.mem_cons_self
    have hi := (List.getElem?_eq_some_iff.mp hs).1
    have hl' : acc.length + (xs.length + 1) ≤ sizeLine := hl
    have put : bindT (.nm i) x s = .ok () (s.set i (.val x)) := by
      show putS i (.val x) s = _
      unfold putS
      rw [hs, decide_eq_true hi]
      rfl
    have wip : wipeC [i] (s.set i (.val x)) = .ok () s := by
      unfold wipeC
      rw [List.any_cons, List.any_nil, List.getElem?_set_self hi]
      show Rs.ok () ((s.set i (.val x)).set i .emp) = _
      rw [set_back hs]
    show ((bindT (.nm i) x s).bind _) = _
    rw [put, bind_ok, h1, bind_ok]
    cases ht : t x with
    | false =>
      show (wipeC [i] (s.set i (.val x))).bind _ = _
      rw [wip, bind_ok, compL_nm hs xs acc (fun y hy => h y (List.mem_cons_of_mem _ hy)) (by omega), List.filter_cons, ht]
      rfl
    | true =>
      show (elt (s.set i (.val x))).bind _ = _
      rw [h2 ht, bind_ok, if_pos (by omega), wip, bind_ok, compL_nm hs xs (acc ++ [g x]) (fun y hy => h y (List.mem_cons_of_mem _ hy)) (by rw [List.length_append, List.length_singleton]; omega), List.filter_cons, ht]
      simp
/-- turns that change the slots: an invariant -/
theorem compL_inv {i : Nat} {tests : Ev → Rs Bool} {elt : Ev → Rs D} (N : Nat) (P : List D → Ev → Prop) : ∀ (xs acc : List D) (s : Ev), P acc s → acc.length + xs.length = N → N ≤ sizeLine →
    (∀ x ∈ xs, ∀ acc s, acc.length < N → P acc s → s[i]? = some .emp ∧ ∃ d s2, tests (s.set i (.val x)) = .ok true (s.set i (.val x)) ∧ elt (s.set i (.val x)) = .ok d s2 ∧ isOwn s2[i]? = false ∧ P (acc ++ [d]) (s2.set i .emp)) →
    ∃ acc' s', compL [i] (.nm i) tests elt xs acc s = .ok acc' s' ∧ P acc' s' ∧ acc'.length = N
  | [], acc, s, p, e, _, _ => ⟨acc, s, rfl, p, by simpa using e⟩
  | x :: xs, acc, s, p, hN, hl, h => by
    have hN' : acc.length + (xs.length + 1) = N := hN
    obtain ⟨hs, d, s2, h1, h2, h3, h4⟩ := h x List.mem_cons_self acc s (by omega) p
    have hi := (List.getElem?_eq_some_iff.mp hs).1
    have put : bindT (.nm i) x s = .ok () (s.set i (.val x)) := by
      show putS i (.val x) s = _
      unfold putS
      rw [hs, decide_eq_true hi]
      rfl
    have wip : wipeC [i] s2 = .ok () (s2.set i .emp) := by
      unfold wipeC
      rw [List.any_cons, List.any_nil, h3]
      rfl
    obtain ⟨acc', s', e, q, ql⟩ := compL_inv N P xs (acc ++ [d]) _ h4 (by rw [List.length_append, List.length_singleton]; omega) hl (fun y hy => h y (List.mem_cons_of_mem _ hy))
    refine ⟨acc', s', ?_, q, ql⟩
    show ((bindT (.nm i) x s).bind _) = _
    rw [put, bind_ok, h1, bind_ok]
    show (elt (s.set i (.val x))).bind _ = _
    rw [h2, bind_ok, if_pos (by omega), wip, bind_ok, e]
/-- a loop whose turns go on -/
theorem forL_inv {bind : D → Ev → Rs Unit} {body : Ev → Rs Fl} (P : Nat → Ev → Prop) : ∀ (xs : List D) (n : Nat) (s : Ev), P n s → (∀ i (x : D), xs[i]? = some x → ∀ s, P (n + i) s → ∃ s1 f s2, bind x s = .ok () s1 ∧ body s1 = .ok f s2 ∧ (f = .nx ∨ f = .ct) ∧ P (n + i + 1) s2) →
    ∃ s', forL bind body xs s = .ok .nx s' ∧ P (n + xs.length) s'
  | [], n, s, p, _ => ⟨s, rfl, p⟩
  | x :: xs, n, s, p, h => by
    obtain ⟨s1, f, s2, h1, h2, h3, h4⟩ := h 0 x rfl s p
    obtain ⟨s', e, q⟩ := forL_inv P xs (n + 1) s2 h4 (fun i y hy s p => by
      have := h (i + 1) y hy s (by rw [show n + (i + 1) = n + 1 + i by omega]; exact p)
      rw [show n + (i + 1) + 1 = n + 1 + i + 1 by omega] at this
      exact this)
    refine ⟨s', ?_, by rw [List.length_cons, show n + (xs.length + 1) = n + 1 + xs.length by omega]; exact q⟩
    show ((bind x s).bind _) = _
    rw [h1, bind_ok, h2, bind_ok]
    rcases h3 with rfl | rfl <;> exact e
end
end GS

theorem GS.some_get {α : Type} {o : Option α} {d : α} (h : o.isSome = true) : o = some (o.getD d) := by cases o with | none => cases h | some a => rfl
namespace K01
open PySem GS L2
def topS (i : Nat) : Stmt := PySem.Challenge.pw_gateslack_k01_numbers_and_names.main.body.getD i (.Pass ⟨0, 0, 0, 0⟩)
def sigs : List (Str × Sig) := [
  ("is_whole", ⟨["thing", "least", "most"], 1, [none, some (PyData.int (0)), some (PyData.int (999))], none⟩),
  ("is_name", ⟨["thing"], 1, [none], none⟩),
  ("number_in", ⟨["word", "least", "most"], 1, [none, some (PyData.int (0)), some (PyData.int (999))], none⟩),
  ("_law_begin", ⟨["script"], 1, [none], none⟩),
  ("_law_mixed", ⟨["cell", "k"], 2, [none, none], none⟩),
  ("_law_next", ⟨["draw", "many"], 2, [none, none], some 0⟩),
  ("_law_sign", ⟨["draw"], 1, [none], some 0⟩),
  ("_law_bent", ⟨["draw", "word"], 2, [none, none], some 0⟩),
  ("_law_letters", ⟨["draw", "signs"], 2, [none, none], some 0⟩),
  ("_law_some", ⟨["draw"], 1, [none], some 0⟩),
  ("_law_is_name", ⟨["thing"], 1, [none], none⟩),
  ("_law_read", ⟨["word", "low", "top"], 3, [none, none, none], none⟩),
  ("_law_is_whole", ⟨["thing", "low", "top"], 3, [none, none, none], none⟩),
  ("_law_wholes_right", ⟨["draw"], 1, [none], some 0⟩),
  ("_law_same", ⟨["found", "due"], 2, [none, none], none⟩),
  ("law", ⟨["script"], 1, [none], none⟩)]
def pats : List (Str × Nat × List Str) := [("_law_begin", 1, []), ("_law_mixed", 2, []), ("_law_next", 2, []), ("_law_letters", 2, []), ("is_whole", 1, ["most", "least"]), ("is_whole", 1, ["least"]), ("is_whole", 1, ["most"]), ("_law_is_whole", 3, []), ("_law_some", 1, []), ("_law_bent", 2, []), ("_law_wholes_right", 1, []), ("_law_same", 2, []), ("_law_sign", 1, []), ("is_whole", 1, []), ("number_in", 1, ["most", "least"]), ("_law_read", 3, []), ("number_in", 1, []), ("number_in", 1, ["least"]), ("is_name", 1, []), ("_law_is_name", 1, [])]
def T : Tabs := ⟨sigs, pats, ["all", "int", "range", "isinstance", "str", "repr", "bool", "len", "min"], ["MOST", "SMALL", "FIGURES", "MOST_LETTERS", "MOST_FIGURES"]⟩
def N_is_whole : List Str := ["thing", "least", "most"]
def N_is_name : List Str := ["thing", "letter"]
def N_number_in : List Str := ["word", "least", "most", "figures", "number", "sign"]
def N__law_begin : List Str := ["script"]
def N__law_mixed : List Str := ["cell", "k", "number"]
def N__law_next : List Str := ["draw", "many", "found", "cells", "cell"]
def N__law_sign : List Str := ["draw", "signs"]
def N__law_bent : List Str := ["draw", "word", "way", "at"]
def N__law_letters : List Str := ["draw", "signs", "size", "k"]
def N__law_some : List Str := ["draw", "small", "figures", "size", "word", "some", "k", "one"]
def N__law_is_name : List Str := ["thing", "small", "sign"]
def N__law_read : List Str := ["word", "low", "top", "figures", "strange", "found", "sign"]
def N__law_is_whole : List Str := ["thing", "low", "top"]
def N__law_wholes_right : List Str := ["draw", "low", "top", "some", "thing", "found", "due"]
def N__law_same : List Str := ["found", "due"]
def N_law : List Str := ["script", "draw", "k", "odd", "some", "thing", "top", "low", "word"]
def c_is_whole : CSs := (trB T N_is_whole 400 ⟨defScope (topS 6), fun _ => true⟩ (defBody (topS 6))).getD .nil
def d_is_whole : Def := ⟨"is_whole", "is_whole", defArgs (topS 6), defBody (topS 6), defScope (topS 6), N_is_whole, ["thing", "least", "most"], none, 400, c_is_whole⟩
def h_is_whole : He.DefD := ⟨("is_whole", none), "is_whole", "is_whole", defArgs (topS 6), defBody (topS 6), defScope (topS 6), [], [("least", .int (0)), ("most", .int (999))]⟩
def c_is_name : CSs := (trB T N_is_name 400 ⟨defScope (topS 7), fun _ => true⟩ (defBody (topS 7))).getD .nil
def d_is_name : Def := ⟨"is_name", "is_name", defArgs (topS 7), defBody (topS 7), defScope (topS 7), N_is_name, ["thing"], none, 400, c_is_name⟩
def h_is_name : He.DefD := ⟨("is_name", none), "is_name", "is_name", defArgs (topS 7), defBody (topS 7), defScope (topS 7), [], []⟩
def c_number_in : CSs := (trB T N_number_in 400 ⟨defScope (topS 8), fun _ => true⟩ (defBody (topS 8))).getD .nil
def d_number_in : Def := ⟨"number_in", "number_in", defArgs (topS 8), defBody (topS 8), defScope (topS 8), N_number_in, ["word", "least", "most"], none, 400, c_number_in⟩
def h_number_in : He.DefD := ⟨("number_in", none), "number_in", "number_in", defArgs (topS 8), defBody (topS 8), defScope (topS 8), [], [("least", .int (0)), ("most", .int (999))]⟩
def c__law_begin : CSs := (trB T N__law_begin 400 ⟨defScope (topS 10), fun _ => true⟩ (defBody (topS 10))).getD .nil
def d__law_begin : Def := ⟨"_law_begin", "_law_begin", defArgs (topS 10), defBody (topS 10), defScope (topS 10), N__law_begin, ["script"], none, 400, c__law_begin⟩
def h__law_begin : He.DefD := ⟨("_law_begin", none), "_law_begin", "_law_begin", defArgs (topS 10), defBody (topS 10), defScope (topS 10), [], []⟩
def c__law_mixed : CSs := (trB T N__law_mixed 400 ⟨defScope (topS 11), fun _ => true⟩ (defBody (topS 11))).getD .nil
def d__law_mixed : Def := ⟨"_law_mixed", "_law_mixed", defArgs (topS 11), defBody (topS 11), defScope (topS 11), N__law_mixed, ["cell", "k"], none, 400, c__law_mixed⟩
def h__law_mixed : He.DefD := ⟨("_law_mixed", none), "_law_mixed", "_law_mixed", defArgs (topS 11), defBody (topS 11), defScope (topS 11), [], []⟩
def c__law_next : CSs := (trB T N__law_next 400 ⟨defScope (topS 12), fun _ => true⟩ (defBody (topS 12))).getD .nil
def d__law_next : Def := ⟨"_law_next", "_law_next", defArgs (topS 12), defBody (topS 12), defScope (topS 12), N__law_next, ["draw", "many"], some 0, 400, c__law_next⟩
def h__law_next : He.DefD := ⟨("_law_next", none), "_law_next", "_law_next", defArgs (topS 12), defBody (topS 12), defScope (topS 12), [], []⟩
def c__law_sign : CSs := (trB T N__law_sign 400 ⟨defScope (topS 13), fun _ => true⟩ (defBody (topS 13))).getD .nil
def d__law_sign : Def := ⟨"_law_sign", "_law_sign", defArgs (topS 13), defBody (topS 13), defScope (topS 13), N__law_sign, ["draw"], some 0, 400, c__law_sign⟩
def h__law_sign : He.DefD := ⟨("_law_sign", none), "_law_sign", "_law_sign", defArgs (topS 13), defBody (topS 13), defScope (topS 13), [], []⟩
def c__law_bent : CSs := (trB T N__law_bent 400 ⟨defScope (topS 14), fun _ => true⟩ (defBody (topS 14))).getD .nil
def d__law_bent : Def := ⟨"_law_bent", "_law_bent", defArgs (topS 14), defBody (topS 14), defScope (topS 14), N__law_bent, ["draw", "word"], some 0, 400, c__law_bent⟩
def h__law_bent : He.DefD := ⟨("_law_bent", none), "_law_bent", "_law_bent", defArgs (topS 14), defBody (topS 14), defScope (topS 14), [], []⟩
def c__law_letters : CSs := (trB T N__law_letters 400 ⟨defScope (topS 15), fun _ => true⟩ (defBody (topS 15))).getD .nil
def d__law_letters : Def := ⟨"_law_letters", "_law_letters", defArgs (topS 15), defBody (topS 15), defScope (topS 15), N__law_letters, ["draw", "signs"], some 0, 400, c__law_letters⟩
def h__law_letters : He.DefD := ⟨("_law_letters", none), "_law_letters", "_law_letters", defArgs (topS 15), defBody (topS 15), defScope (topS 15), [], []⟩
def c__law_some : CSs := (trB T N__law_some 400 ⟨defScope (topS 16), fun _ => true⟩ (defBody (topS 16))).getD .nil
def d__law_some : Def := ⟨"_law_some", "_law_some", defArgs (topS 16), defBody (topS 16), defScope (topS 16), N__law_some, ["draw"], some 0, 400, c__law_some⟩
def h__law_some : He.DefD := ⟨("_law_some", none), "_law_some", "_law_some", defArgs (topS 16), defBody (topS 16), defScope (topS 16), [], []⟩
def c__law_is_name : CSs := (trB T N__law_is_name 400 ⟨defScope (topS 17), fun _ => true⟩ (defBody (topS 17))).getD .nil
def d__law_is_name : Def := ⟨"_law_is_name", "_law_is_name", defArgs (topS 17), defBody (topS 17), defScope (topS 17), N__law_is_name, ["thing"], none, 400, c__law_is_name⟩
def h__law_is_name : He.DefD := ⟨("_law_is_name", none), "_law_is_name", "_law_is_name", defArgs (topS 17), defBody (topS 17), defScope (topS 17), [], []⟩
def c__law_read : CSs := (trB T N__law_read 400 ⟨defScope (topS 18), fun _ => true⟩ (defBody (topS 18))).getD .nil
def d__law_read : Def := ⟨"_law_read", "_law_read", defArgs (topS 18), defBody (topS 18), defScope (topS 18), N__law_read, ["word", "low", "top"], none, 400, c__law_read⟩
def h__law_read : He.DefD := ⟨("_law_read", none), "_law_read", "_law_read", defArgs (topS 18), defBody (topS 18), defScope (topS 18), [], []⟩
def c__law_is_whole : CSs := (trB T N__law_is_whole 400 ⟨defScope (topS 19), fun _ => true⟩ (defBody (topS 19))).getD .nil
def d__law_is_whole : Def := ⟨"_law_is_whole", "_law_is_whole", defArgs (topS 19), defBody (topS 19), defScope (topS 19), N__law_is_whole, ["thing", "low", "top"], none, 400, c__law_is_whole⟩
def h__law_is_whole : He.DefD := ⟨("_law_is_whole", none), "_law_is_whole", "_law_is_whole", defArgs (topS 19), defBody (topS 19), defScope (topS 19), [], []⟩
def c__law_wholes_right : CSs := (trB T N__law_wholes_right 400 ⟨defScope (topS 20), fun _ => true⟩ (defBody (topS 20))).getD .nil
def d__law_wholes_right : Def := ⟨"_law_wholes_right", "_law_wholes_right", defArgs (topS 20), defBody (topS 20), defScope (topS 20), N__law_wholes_right, ["draw"], some 0, 400, c__law_wholes_right⟩
def h__law_wholes_right : He.DefD := ⟨("_law_wholes_right", none), "_law_wholes_right", "_law_wholes_right", defArgs (topS 20), defBody (topS 20), defScope (topS 20), [], []⟩
def c__law_same : CSs := (trB T N__law_same 400 ⟨defScope (topS 21), fun _ => true⟩ (defBody (topS 21))).getD .nil
def d__law_same : Def := ⟨"_law_same", "_law_same", defArgs (topS 21), defBody (topS 21), defScope (topS 21), N__law_same, ["found", "due"], none, 400, c__law_same⟩
def h__law_same : He.DefD := ⟨("_law_same", none), "_law_same", "_law_same", defArgs (topS 21), defBody (topS 21), defScope (topS 21), [], []⟩
def c_law : CSs := (trB T N_law 400 ⟨defScope (topS 22), fun _ => true⟩ (defBody (topS 22))).getD .nil
def d_law : Def := ⟨"law", "law", defArgs (topS 22), defBody (topS 22), defScope (topS 22), N_law, ["script"], none, 400, c_law⟩
def h_law : He.DefD := ⟨("law", none), "law", "law", defArgs (topS 22), defBody (topS 22), defScope (topS 22), [], []⟩
def ds : List Def := [d_is_whole, d_is_name, d_number_in, d__law_begin, d__law_mixed, d__law_next, d__law_sign, d__law_bent, d__law_letters, d__law_some, d__law_is_name, d__law_read, d__law_is_whole, d__law_wholes_right, d__law_same, d_law]
def fsL : List (Str × FD) := ds.map fun d => (d.name, ⟨d.N.length, d.ps.length, d.io, d.core⟩)
def cons : List (Str × D) := [("MOST", PyData.int (999)), ("SMALL", PyData.str "abcdefghijklmnopqrstuvwxyz"), ("FIGURES", PyData.str "0123456789"), ("MOST_LETTERS", PyData.int (8)), ("MOST_FIGURES", PyData.int (5))]
noncomputable def prog : Prog := ⟨fun x => fsL.lookup x, whileW, fun x => cons.lookup x⟩
def fn : List He.DefD := [h_is_whole, h_is_name, h_number_in, h__law_begin, h__law_mixed, h__law_next, h__law_sign, h__law_bent, h__law_letters, h__law_some, h__law_is_name, h__law_read, h__law_is_whole, h__law_wholes_right, h__law_same, h_law]
def fa : List He.Fa := [.glo "is_whole", .glo "is_name", .glo "number_in", .glo "_law_begin", .glo "_law_mixed", .glo "_law_next", .glo "_law_sign", .glo "_law_bent", .glo "_law_letters", .glo "_law_some", .glo "_law_is_name", .glo "_law_read", .glo "_law_is_whole", .glo "_law_wholes_right", .glo "_law_same", .glo "law", .free "all", .free "int", .free "range", .free "isinstance", .free "str", .free "repr", .free "bool", .free "len", .free "min", .int "MOST" (999), .str "SMALL" "abcdefghijklmnopqrstuvwxyz", .str "FIGURES" "0123456789", .int "MOST_LETTERS" (8), .int "MOST_FIGURES" (5)]
theorem tr_is_whole : trB T d_is_whole.N d_is_whole.fuel ⟨d_is_whole.scope, fun _ => true⟩ d_is_whole.body = some d_is_whole.core := some_get (d := CSs.nil) (by decide +kernel)
theorem sc_is_whole : FnScope d_is_whole.N d_is_whole.ps d_is_whole.scope := ⟨rfl, rfl, rfl, by decide +kernel, rfl, by decide +kernel, by decide +kernel⟩
theorem tr_is_name : trB T d_is_name.N d_is_name.fuel ⟨d_is_name.scope, fun _ => true⟩ d_is_name.body = some d_is_name.core := some_get (d := CSs.nil) (by decide +kernel)
theorem sc_is_name : FnScope d_is_name.N d_is_name.ps d_is_name.scope := ⟨rfl, rfl, rfl, by decide +kernel, rfl, by decide +kernel, by decide +kernel⟩
theorem tr_number_in : trB T d_number_in.N d_number_in.fuel ⟨d_number_in.scope, fun _ => true⟩ d_number_in.body = some d_number_in.core := some_get (d := CSs.nil) (by decide +kernel)
theorem sc_number_in : FnScope d_number_in.N d_number_in.ps d_number_in.scope := ⟨rfl, rfl, rfl, by decide +kernel, rfl, by decide +kernel, by decide +kernel⟩
theorem tr__law_begin : trB T d__law_begin.N d__law_begin.fuel ⟨d__law_begin.scope, fun _ => true⟩ d__law_begin.body = some d__law_begin.core := some_get (d := CSs.nil) (by decide +kernel)
theorem sc__law_begin : FnScope d__law_begin.N d__law_begin.ps d__law_begin.scope := ⟨rfl, rfl, rfl, by decide +kernel, rfl, by decide +kernel, by decide +kernel⟩
theorem tr__law_mixed : trB T d__law_mixed.N d__law_mixed.fuel ⟨d__law_mixed.scope, fun _ => true⟩ d__law_mixed.body = some d__law_mixed.core := some_get (d := CSs.nil) (by decide +kernel)
theorem sc__law_mixed : FnScope d__law_mixed.N d__law_mixed.ps d__law_mixed.scope := ⟨rfl, rfl, rfl, by decide +kernel, rfl, by decide +kernel, by decide +kernel⟩
theorem tr__law_next : trB T d__law_next.N d__law_next.fuel ⟨d__law_next.scope, fun _ => true⟩ d__law_next.body = some d__law_next.core := some_get (d := CSs.nil) (by decide +kernel)
theorem sc__law_next : FnScope d__law_next.N d__law_next.ps d__law_next.scope := ⟨rfl, rfl, rfl, by decide +kernel, rfl, by decide +kernel, by decide +kernel⟩
theorem tr__law_sign : trB T d__law_sign.N d__law_sign.fuel ⟨d__law_sign.scope, fun _ => true⟩ d__law_sign.body = some d__law_sign.core := some_get (d := CSs.nil) (by decide +kernel)
theorem sc__law_sign : FnScope d__law_sign.N d__law_sign.ps d__law_sign.scope := ⟨rfl, rfl, rfl, by decide +kernel, rfl, by decide +kernel, by decide +kernel⟩
theorem tr__law_bent : trB T d__law_bent.N d__law_bent.fuel ⟨d__law_bent.scope, fun _ => true⟩ d__law_bent.body = some d__law_bent.core := some_get (d := CSs.nil) (by decide +kernel)
theorem sc__law_bent : FnScope d__law_bent.N d__law_bent.ps d__law_bent.scope := ⟨rfl, rfl, rfl, by decide +kernel, rfl, by decide +kernel, by decide +kernel⟩
theorem tr__law_letters : trB T d__law_letters.N d__law_letters.fuel ⟨d__law_letters.scope, fun _ => true⟩ d__law_letters.body = some d__law_letters.core := some_get (d := CSs.nil) (by decide +kernel)
theorem sc__law_letters : FnScope d__law_letters.N d__law_letters.ps d__law_letters.scope := ⟨rfl, rfl, rfl, by decide +kernel, rfl, by decide +kernel, by decide +kernel⟩
theorem tr__law_some : trB T d__law_some.N d__law_some.fuel ⟨d__law_some.scope, fun _ => true⟩ d__law_some.body = some d__law_some.core := some_get (d := CSs.nil) (by decide +kernel)
theorem sc__law_some : FnScope d__law_some.N d__law_some.ps d__law_some.scope := ⟨rfl, rfl, rfl, by decide +kernel, rfl, by decide +kernel, by decide +kernel⟩
theorem tr__law_is_name : trB T d__law_is_name.N d__law_is_name.fuel ⟨d__law_is_name.scope, fun _ => true⟩ d__law_is_name.body = some d__law_is_name.core := some_get (d := CSs.nil) (by decide +kernel)
theorem sc__law_is_name : FnScope d__law_is_name.N d__law_is_name.ps d__law_is_name.scope := ⟨rfl, rfl, rfl, by decide +kernel, rfl, by decide +kernel, by decide +kernel⟩
theorem tr__law_read : trB T d__law_read.N d__law_read.fuel ⟨d__law_read.scope, fun _ => true⟩ d__law_read.body = some d__law_read.core := some_get (d := CSs.nil) (by decide +kernel)
theorem sc__law_read : FnScope d__law_read.N d__law_read.ps d__law_read.scope := ⟨rfl, rfl, rfl, by decide +kernel, rfl, by decide +kernel, by decide +kernel⟩
theorem tr__law_is_whole : trB T d__law_is_whole.N d__law_is_whole.fuel ⟨d__law_is_whole.scope, fun _ => true⟩ d__law_is_whole.body = some d__law_is_whole.core := some_get (d := CSs.nil) (by decide +kernel)
theorem sc__law_is_whole : FnScope d__law_is_whole.N d__law_is_whole.ps d__law_is_whole.scope := ⟨rfl, rfl, rfl, by decide +kernel, rfl, by decide +kernel, by decide +kernel⟩
theorem tr__law_wholes_right : trB T d__law_wholes_right.N d__law_wholes_right.fuel ⟨d__law_wholes_right.scope, fun _ => true⟩ d__law_wholes_right.body = some d__law_wholes_right.core := some_get (d := CSs.nil) (by decide +kernel)
theorem sc__law_wholes_right : FnScope d__law_wholes_right.N d__law_wholes_right.ps d__law_wholes_right.scope := ⟨rfl, rfl, rfl, by decide +kernel, rfl, by decide +kernel, by decide +kernel⟩
theorem tr__law_same : trB T d__law_same.N d__law_same.fuel ⟨d__law_same.scope, fun _ => true⟩ d__law_same.body = some d__law_same.core := some_get (d := CSs.nil) (by decide +kernel)
theorem sc__law_same : FnScope d__law_same.N d__law_same.ps d__law_same.scope := ⟨rfl, rfl, rfl, by decide +kernel, rfl, by decide +kernel, by decide +kernel⟩
theorem tr_law : trB T d_law.N d_law.fuel ⟨d_law.scope, fun _ => true⟩ d_law.body = some d_law.core := some_get (d := CSs.nil) (by decide +kernel)
theorem sc_law : FnScope d_law.N d_law.ps d_law.scope := ⟨rfl, rfl, rfl, by decide +kernel, rfl, by decide +kernel, by decide +kernel⟩
section
variable {K : PySem.W.Frag} {mg : Str → Option Value}
/-- a def stands -/
abbrev At (K : PySem.W.Frag) (mg : Str → Option Value) (d : Def) (dvs : List V) (kws : List (Str × V)) : Prop := ∃ fa fd, FunD K d.name d.qual d.params d.body d.scope dvs kws fa fd ∧ mg d.name = some (.ref fa)
def BindAt (K : PySem.W.Frag) (mg : Str → Option Value) (p : Str × Nat × List Str) : Prop := ∀ g ps, T.sig.lookup p.1 = some g → permOf g p.2.1 p.2.2 = some ps → ∃ d ∈ ds, d.name = p.1 ∧ ∃ (dvs : List V) (kws : List (Str × V)) (fa : Addr) (fd : FuncData) (gg : List Value → List Value → List Value) (gV : List V → List V → List V),
    FunD K d.name d.qual d.params d.body d.scope dvs kws fa fd ∧ mg d.name = some (.ref fa) ∧ KBn K fd d.ps p.2.1 p.2.2 gg gV ∧ ∀ vs zs, vs.length = p.2.1 → zs.length = p.2.2.length → gV vs zs = permV ps (vs ++ zs) ∧ (gV vs zs).length = d.ps.length
theorem b_0 (h : At K mg d__law_begin [] []) : BindAt K mg ("_law_begin", 1, []) := by
  obtain ⟨fa, fd, F, at_⟩ := h
  intro g ps e1 e2
  have e : (T.sig.lookup ("_law_begin" : Str)).bind (fun g => permOf g 1 []) = some ([.pos 0] : List GS.PA) := by rfl
  rw [e1] at e
  cases e2.symm.trans e
  have kb : KBn K fd d__law_begin.ps 1 [] (fun us ws => [us.getD 0 .none]) (fun vs zs => [vs.getD 0 .non]) := kb_plain F (fun r rz => .cons (gd_rel r 0) (.nil)) fun dV kV doc pm an cdv ct us ws l1 l2 hd => by
    cases hd rfl
    match us, ws, l1, l2 with
    | [u0], [], _, _ => rfl
  exact ⟨d__law_begin, by simp [ds], rfl, _, _, fa, fd, _, _, F, at_, kb, fun vs zs l1 l2 => match vs, zs, l1, l2 with | [v0], [], _, _ => ⟨rfl, rfl⟩⟩
theorem b_1 (h : At K mg d__law_mixed [] []) : BindAt K mg ("_law_mixed", 2, []) := by
  obtain ⟨fa, fd, F, at_⟩ := h
  intro g ps e1 e2
  have e : (T.sig.lookup ("_law_mixed" : Str)).bind (fun g => permOf g 2 []) = some ([.pos 0, .pos 1] : List GS.PA) := by rfl
  rw [e1] at e
  cases e2.symm.trans e
  have kb : KBn K fd d__law_mixed.ps 2 [] (fun us ws => [us.getD 0 .none, us.getD 1 .none]) (fun vs zs => [vs.getD 0 .non, vs.getD 1 .non]) := kb_plain F (fun r rz => .cons (gd_rel r 0) (.cons (gd_rel r 1) (.nil))) fun dV kV doc pm an cdv ct us ws l1 l2 hd => by
    cases hd rfl
    match us, ws, l1, l2 with
    | [u0, u1], [], _, _ => rfl
  exact ⟨d__law_mixed, by simp [ds], rfl, _, _, fa, fd, _, _, F, at_, kb, fun vs zs l1 l2 => match vs, zs, l1, l2 with | [v0, v1], [], _, _ => ⟨rfl, rfl⟩⟩
theorem b_2 (h : At K mg d__law_next [] []) : BindAt K mg ("_law_next", 2, []) := by
  obtain ⟨fa, fd, F, at_⟩ := h
  intro g ps e1 e2
  have e : (T.sig.lookup ("_law_next" : Str)).bind (fun g => permOf g 2 []) = some ([.io 0, .pos 1] : List GS.PA) := by rfl
  rw [e1] at e
  cases e2.symm.trans e
  have kb : KBn K fd d__law_next.ps 2 [] (fun us ws => [us.getD 0 .none, us.getD 1 .none]) (fun vs zs => [vs.getD 0 .non, vs.getD 1 .non]) := kb_plain F (fun r rz => .cons (gd_rel r 0) (.cons (gd_rel r 1) (.nil))) fun dV kV doc pm an cdv ct us ws l1 l2 hd => by
    cases hd rfl
    match us, ws, l1, l2 with
    | [u0, u1], [], _, _ => rfl
  exact ⟨d__law_next, by simp [ds], rfl, _, _, fa, fd, _, _, F, at_, kb, fun vs zs l1 l2 => match vs, zs, l1, l2 with | [v0, v1], [], _, _ => ⟨rfl, rfl⟩⟩
theorem b_3 (h : At K mg d__law_letters [] []) : BindAt K mg ("_law_letters", 2, []) := by
  obtain ⟨fa, fd, F, at_⟩ := h
  intro g ps e1 e2
  have e : (T.sig.lookup ("_law_letters" : Str)).bind (fun g => permOf g 2 []) = some ([.io 0, .pos 1] : List GS.PA) := by rfl
  rw [e1] at e
  cases e2.symm.trans e
  have kb : KBn K fd d__law_letters.ps 2 [] (fun us ws => [us.getD 0 .none, us.getD 1 .none]) (fun vs zs => [vs.getD 0 .non, vs.getD 1 .non]) := kb_plain F (fun r rz => .cons (gd_rel r 0) (.cons (gd_rel r 1) (.nil))) fun dV kV doc pm an cdv ct us ws l1 l2 hd => by
    cases hd rfl
    match us, ws, l1, l2 with
    | [u0, u1], [], _, _ => rfl
  exact ⟨d__law_letters, by simp [ds], rfl, _, _, fa, fd, _, _, F, at_, kb, fun vs zs l1 l2 => match vs, zs, l1, l2 with | [v0, v1], [], _, _ => ⟨rfl, rfl⟩⟩
theorem b_4 (h : At K mg d_is_whole [] [("least", V.int (0)), ("most", V.int (999))]) : BindAt K mg ("is_whole", 1, ["most", "least"]) := by
  obtain ⟨fa, fd, F, at_⟩ := h
  intro g ps e1 e2
  have e : (T.sig.lookup ("is_whole" : Str)).bind (fun g => permOf g 1 ["most", "least"]) = some ([.pos 0, .pos 2, .pos 1] : List GS.PA) := by rfl
  rw [e1] at e
  cases e2.symm.trans e
  have kb : KBn K fd d_is_whole.ps 1 ["most", "least"] (fun us ws => [us.getD 0 .none, ws.getD 1 .none, ws.getD 0 .none]) (fun vs zs => [vs.getD 0 .non, zs.getD 1 .non, zs.getD 0 .non]) := kb_plain F (fun r rz => .cons (gd_rel r 0) (.cons (gd_rel rz 1) (.cons (gd_rel rz 0) (.nil)))) fun dV kV doc pm an cdv ct us ws l1 l2 hd => by
    cases hd rfl
    match us, ws, l1, l2 with
    | [u0], [w0, w1], _, _ => rfl
  exact ⟨d_is_whole, by simp [ds], rfl, _, _, fa, fd, _, _, F, at_, kb, fun vs zs l1 l2 => match vs, zs, l1, l2 with | [v0], [z0, z1], _, _ => ⟨rfl, rfl⟩⟩
theorem b_5 (h : At K mg d_is_whole [] [("least", V.int (0)), ("most", V.int (999))]) : BindAt K mg ("is_whole", 1, ["least"]) := by
  obtain ⟨fa, fd, F, at_⟩ := h
  intro g ps e1 e2
  have e : (T.sig.lookup ("is_whole" : Str)).bind (fun g => permOf g 1 ["least"]) = some ([.pos 0, .pos 1, .dfl (PyData.int (999))] : List GS.PA) := by rfl
  rw [e1] at e
  cases e2.symm.trans e
  obtain ⟨mv, kb⟩ := kb_kwd (n := 1) (ks := ["least"]) (ps := d_is_whole.ps) (g := fun us mv ws => [us.getD 0 .none, ws.getD 0 .none, mv.getD 0 .none]) (gV := fun vs ds zs => [vs.getD 0 .non, zs.getD 0 .non, ds.getD 0 .non]) ([("most", V.int (999))] : List (Str × V)) F (by simp) (by simp) (fun r rm rz => .cons (gd_rel r 0) (.cons (gd_rel rz 0) (.cons (gd_rel rm 0) (.nil)))) fun D doc pm an cdv ct us mv ws l1 l2 l3 =>
    match us, mv, ws, l1, l2, l3 with
    | [u0], [m0], [w0], _, _, _ => ⟨_, _, _, _, _, _, rfl, rfl, rfl⟩
  exact ⟨d_is_whole, by simp [ds], rfl, _, _, fa, fd, _, _, F, at_, kb, fun vs zs l1 l2 => match vs, zs, l1, l2 with | [v0], [z0], _, _ => ⟨rfl, rfl⟩⟩
theorem b_6 (h : At K mg d_is_whole [] [("least", V.int (0)), ("most", V.int (999))]) : BindAt K mg ("is_whole", 1, ["most"]) := by
  obtain ⟨fa, fd, F, at_⟩ := h
  intro g ps e1 e2
  have e : (T.sig.lookup ("is_whole" : Str)).bind (fun g => permOf g 1 ["most"]) = some ([.pos 0, .dfl (PyData.int (0)), .pos 1] : List GS.PA) := by rfl
  rw [e1] at e
  cases e2.symm.trans e
  obtain ⟨mv, kb⟩ := kb_kwd (n := 1) (ks := ["most"]) (ps := d_is_whole.ps) (g := fun us mv ws => [us.getD 0 .none, mv.getD 0 .none, ws.getD 0 .none]) (gV := fun vs ds zs => [vs.getD 0 .non, ds.getD 0 .non, zs.getD 0 .non]) ([("least", V.int (0))] : List (Str × V)) F (by simp) (by simp) (fun r rm rz => .cons (gd_rel r 0) (.cons (gd_rel rm 0) (.cons (gd_rel rz 0) (.nil)))) fun D doc pm an cdv ct us mv ws l1 l2 l3 =>
    match us, mv, ws, l1, l2, l3 with
    | [u0], [m0], [w0], _, _, _ => ⟨_, _, _, _, _, _, rfl, rfl, rfl⟩
  exact ⟨d_is_whole, by simp [ds], rfl, _, _, fa, fd, _, _, F, at_, kb, fun vs zs l1 l2 => match vs, zs, l1, l2 with | [v0], [z0], _, _ => ⟨rfl, rfl⟩⟩
theorem b_7 (h : At K mg d__law_is_whole [] []) : BindAt K mg ("_law_is_whole", 3, []) := by
  obtain ⟨fa, fd, F, at_⟩ := h
  intro g ps e1 e2
  have e : (T.sig.lookup ("_law_is_whole" : Str)).bind (fun g => permOf g 3 []) = some ([.pos 0, .pos 1, .pos 2] : List GS.PA) := by rfl
  rw [e1] at e
  cases e2.symm.trans e
  have kb : KBn K fd d__law_is_whole.ps 3 [] (fun us ws => [us.getD 0 .none, us.getD 1 .none, us.getD 2 .none]) (fun vs zs => [vs.getD 0 .non, vs.getD 1 .non, vs.getD 2 .non]) := kb_plain F (fun r rz => .cons (gd_rel r 0) (.cons (gd_rel r 1) (.cons (gd_rel r 2) (.nil)))) fun dV kV doc pm an cdv ct us ws l1 l2 hd => by
    cases hd rfl
    match us, ws, l1, l2 with
    | [u0, u1, u2], [], _, _ => rfl
  exact ⟨d__law_is_whole, by simp [ds], rfl, _, _, fa, fd, _, _, F, at_, kb, fun vs zs l1 l2 => match vs, zs, l1, l2 with | [v0, v1, v2], [], _, _ => ⟨rfl, rfl⟩⟩
theorem b_8 (h : At K mg d__law_some [] []) : BindAt K mg ("_law_some", 1, []) := by
  obtain ⟨fa, fd, F, at_⟩ := h
  intro g ps e1 e2
  have e : (T.sig.lookup ("_law_some" : Str)).bind (fun g => permOf g 1 []) = some ([.io 0] : List GS.PA) := by rfl
  rw [e1] at e
  cases e2.symm.trans e
  have kb : KBn K fd d__law_some.ps 1 [] (fun us ws => [us.getD 0 .none]) (fun vs zs => [vs.getD 0 .non]) := kb_plain F (fun r rz => .cons (gd_rel r 0) (.nil)) fun dV kV doc pm an cdv ct us ws l1 l2 hd => by
    cases hd rfl
    match us, ws, l1, l2 with
    | [u0], [], _, _ => rfl
  exact ⟨d__law_some, by simp [ds], rfl, _, _, fa, fd, _, _, F, at_, kb, fun vs zs l1 l2 => match vs, zs, l1, l2 with | [v0], [], _, _ => ⟨rfl, rfl⟩⟩
theorem b_9 (h : At K mg d__law_bent [] []) : BindAt K mg ("_law_bent", 2, []) := by
  obtain ⟨fa, fd, F, at_⟩ := h
  intro g ps e1 e2
  have e : (T.sig.lookup ("_law_bent" : Str)).bind (fun g => permOf g 2 []) = some ([.io 0, .pos 1] : List GS.PA) := by rfl
  rw [e1] at e
  cases e2.symm.trans e
  have kb : KBn K fd d__law_bent.ps 2 [] (fun us ws => [us.getD 0 .none, us.getD 1 .none]) (fun vs zs => [vs.getD 0 .non, vs.getD 1 .non]) := kb_plain F (fun r rz => .cons (gd_rel r 0) (.cons (gd_rel r 1) (.nil))) fun dV kV doc pm an cdv ct us ws l1 l2 hd => by
    cases hd rfl
    match us, ws, l1, l2 with
    | [u0, u1], [], _, _ => rfl
  exact ⟨d__law_bent, by simp [ds], rfl, _, _, fa, fd, _, _, F, at_, kb, fun vs zs l1 l2 => match vs, zs, l1, l2 with | [v0, v1], [], _, _ => ⟨rfl, rfl⟩⟩
theorem b_10 (h : At K mg d__law_wholes_right [] []) : BindAt K mg ("_law_wholes_right", 1, []) := by
  obtain ⟨fa, fd, F, at_⟩ := h
  intro g ps e1 e2
  have e : (T.sig.lookup ("_law_wholes_right" : Str)).bind (fun g => permOf g 1 []) = some ([.io 0] : List GS.PA) := by rfl
  rw [e1] at e
  cases e2.symm.trans e
  have kb : KBn K fd d__law_wholes_right.ps 1 [] (fun us ws => [us.getD 0 .none]) (fun vs zs => [vs.getD 0 .non]) := kb_plain F (fun r rz => .cons (gd_rel r 0) (.nil)) fun dV kV doc pm an cdv ct us ws l1 l2 hd => by
    cases hd rfl
    match us, ws, l1, l2 with
    | [u0], [], _, _ => rfl
  exact ⟨d__law_wholes_right, by simp [ds], rfl, _, _, fa, fd, _, _, F, at_, kb, fun vs zs l1 l2 => match vs, zs, l1, l2 with | [v0], [], _, _ => ⟨rfl, rfl⟩⟩
theorem b_11 (h : At K mg d__law_same [] []) : BindAt K mg ("_law_same", 2, []) := by
  obtain ⟨fa, fd, F, at_⟩ := h
  intro g ps e1 e2
  have e : (T.sig.lookup ("_law_same" : Str)).bind (fun g => permOf g 2 []) = some ([.pos 0, .pos 1] : List GS.PA) := by rfl
  rw [e1] at e
  cases e2.symm.trans e
  have kb : KBn K fd d__law_same.ps 2 [] (fun us ws => [us.getD 0 .none, us.getD 1 .none]) (fun vs zs => [vs.getD 0 .non, vs.getD 1 .non]) := kb_plain F (fun r rz => .cons (gd_rel r 0) (.cons (gd_rel r 1) (.nil))) fun dV kV doc pm an cdv ct us ws l1 l2 hd => by
    cases hd rfl
    match us, ws, l1, l2 with
    | [u0, u1], [], _, _ => rfl
  exact ⟨d__law_same, by simp [ds], rfl, _, _, fa, fd, _, _, F, at_, kb, fun vs zs l1 l2 => match vs, zs, l1, l2 with | [v0, v1], [], _, _ => ⟨rfl, rfl⟩⟩
theorem b_12 (h : At K mg d__law_sign [] []) : BindAt K mg ("_law_sign", 1, []) := by
  obtain ⟨fa, fd, F, at_⟩ := h
  intro g ps e1 e2
  have e : (T.sig.lookup ("_law_sign" : Str)).bind (fun g => permOf g 1 []) = some ([.io 0] : List GS.PA) := by rfl
  rw [e1] at e
  cases e2.symm.trans e
  have kb : KBn K fd d__law_sign.ps 1 [] (fun us ws => [us.getD 0 .none]) (fun vs zs => [vs.getD 0 .non]) := kb_plain F (fun r rz => .cons (gd_rel r 0) (.nil)) fun dV kV doc pm an cdv ct us ws l1 l2 hd => by
    cases hd rfl
    match us, ws, l1, l2 with
    | [u0], [], _, _ => rfl
  exact ⟨d__law_sign, by simp [ds], rfl, _, _, fa, fd, _, _, F, at_, kb, fun vs zs l1 l2 => match vs, zs, l1, l2 with | [v0], [], _, _ => ⟨rfl, rfl⟩⟩
theorem b_13 (h : At K mg d_is_whole [] [("least", V.int (0)), ("most", V.int (999))]) : BindAt K mg ("is_whole", 1, []) := by
  obtain ⟨fa, fd, F, at_⟩ := h
  intro g ps e1 e2
  have e : (T.sig.lookup ("is_whole" : Str)).bind (fun g => permOf g 1 []) = some ([.pos 0, .dfl (PyData.int (0)), .dfl (PyData.int (999))] : List GS.PA) := by rfl
  rw [e1] at e
  cases e2.symm.trans e
  obtain ⟨mv, kb⟩ := kb_kwd (n := 1) (ks := []) (ps := d_is_whole.ps) (g := fun us mv ws => [us.getD 0 .none, mv.getD 0 .none, mv.getD 1 .none]) (gV := fun vs ds zs => [vs.getD 0 .non, ds.getD 0 .non, ds.getD 1 .non]) ([("least", V.int (0)), ("most", V.int (999))] : List (Str × V)) F (by simp) (by simp) (fun r rm rz => .cons (gd_rel r 0) (.cons (gd_rel rm 0) (.cons (gd_rel rm 1) (.nil)))) fun D doc pm an cdv ct us mv ws l1 l2 l3 =>
    match us, mv, ws, l1, l2, l3 with
    | [u0], [m0, m1], [], _, _, _ => ⟨_, _, _, _, _, _, rfl, rfl, ⟨_, _, _, _, _, _, rfl, rfl, rfl⟩⟩
  exact ⟨d_is_whole, by simp [ds], rfl, _, _, fa, fd, _, _, F, at_, kb, fun vs zs l1 l2 => match vs, zs, l1, l2 with | [v0], [], _, _ => ⟨rfl, rfl⟩⟩
theorem b_14 (h : At K mg d_number_in [] [("least", V.int (0)), ("most", V.int (999))]) : BindAt K mg ("number_in", 1, ["most", "least"]) := by
  obtain ⟨fa, fd, F, at_⟩ := h
  intro g ps e1 e2
  have e : (T.sig.lookup ("number_in" : Str)).bind (fun g => permOf g 1 ["most", "least"]) = some ([.pos 0, .pos 2, .pos 1] : List GS.PA) := by rfl
  rw [e1] at e
  cases e2.symm.trans e
  have kb : KBn K fd d_number_in.ps 1 ["most", "least"] (fun us ws => [us.getD 0 .none, ws.getD 1 .none, ws.getD 0 .none]) (fun vs zs => [vs.getD 0 .non, zs.getD 1 .non, zs.getD 0 .non]) := kb_plain F (fun r rz => .cons (gd_rel r 0) (.cons (gd_rel rz 1) (.cons (gd_rel rz 0) (.nil)))) fun dV kV doc pm an cdv ct us ws l1 l2 hd => by
    cases hd rfl
    match us, ws, l1, l2 with
    | [u0], [w0, w1], _, _ => rfl
  exact ⟨d_number_in, by simp [ds], rfl, _, _, fa, fd, _, _, F, at_, kb, fun vs zs l1 l2 => match vs, zs, l1, l2 with | [v0], [z0, z1], _, _ => ⟨rfl, rfl⟩⟩
theorem b_15 (h : At K mg d__law_read [] []) : BindAt K mg ("_law_read", 3, []) := by
  obtain ⟨fa, fd, F, at_⟩ := h
  intro g ps e1 e2
  have e : (T.sig.lookup ("_law_read" : Str)).bind (fun g => permOf g 3 []) = some ([.pos 0, .pos 1, .pos 2] : List GS.PA) := by rfl
  rw [e1] at e
  cases e2.symm.trans e
  have kb : KBn K fd d__law_read.ps 3 [] (fun us ws => [us.getD 0 .none, us.getD 1 .none, us.getD 2 .none]) (fun vs zs => [vs.getD 0 .non, vs.getD 1 .non, vs.getD 2 .non]) := kb_plain F (fun r rz => .cons (gd_rel r 0) (.cons (gd_rel r 1) (.cons (gd_rel r 2) (.nil)))) fun dV kV doc pm an cdv ct us ws l1 l2 hd => by
    cases hd rfl
    match us, ws, l1, l2 with
    | [u0, u1, u2], [], _, _ => rfl
  exact ⟨d__law_read, by simp [ds], rfl, _, _, fa, fd, _, _, F, at_, kb, fun vs zs l1 l2 => match vs, zs, l1, l2 with | [v0, v1, v2], [], _, _ => ⟨rfl, rfl⟩⟩
theorem b_16 (h : At K mg d_number_in [] [("least", V.int (0)), ("most", V.int (999))]) : BindAt K mg ("number_in", 1, []) := by
  obtain ⟨fa, fd, F, at_⟩ := h
  intro g ps e1 e2
  have e : (T.sig.lookup ("number_in" : Str)).bind (fun g => permOf g 1 []) = some ([.pos 0, .dfl (PyData.int (0)), .dfl (PyData.int (999))] : List GS.PA) := by rfl
  rw [e1] at e
  cases e2.symm.trans e
  obtain ⟨mv, kb⟩ := kb_kwd (n := 1) (ks := []) (ps := d_number_in.ps) (g := fun us mv ws => [us.getD 0 .none, mv.getD 0 .none, mv.getD 1 .none]) (gV := fun vs ds zs => [vs.getD 0 .non, ds.getD 0 .non, ds.getD 1 .non]) ([("least", V.int (0)), ("most", V.int (999))] : List (Str × V)) F (by simp) (by simp) (fun r rm rz => .cons (gd_rel r 0) (.cons (gd_rel rm 0) (.cons (gd_rel rm 1) (.nil)))) fun D doc pm an cdv ct us mv ws l1 l2 l3 =>
    match us, mv, ws, l1, l2, l3 with
    | [u0], [m0, m1], [], _, _, _ => ⟨_, _, _, _, _, _, rfl, rfl, ⟨_, _, _, _, _, _, rfl, rfl, rfl⟩⟩
  exact ⟨d_number_in, by simp [ds], rfl, _, _, fa, fd, _, _, F, at_, kb, fun vs zs l1 l2 => match vs, zs, l1, l2 with | [v0], [], _, _ => ⟨rfl, rfl⟩⟩
theorem b_17 (h : At K mg d_number_in [] [("least", V.int (0)), ("most", V.int (999))]) : BindAt K mg ("number_in", 1, ["least"]) := by
  obtain ⟨fa, fd, F, at_⟩ := h
  intro g ps e1 e2
  have e : (T.sig.lookup ("number_in" : Str)).bind (fun g => permOf g 1 ["least"]) = some ([.pos 0, .pos 1, .dfl (PyData.int (999))] : List GS.PA) := by rfl
  rw [e1] at e
  cases e2.symm.trans e
  obtain ⟨mv, kb⟩ := kb_kwd (n := 1) (ks := ["least"]) (ps := d_number_in.ps) (g := fun us mv ws => [us.getD 0 .none, ws.getD 0 .none, mv.getD 0 .none]) (gV := fun vs ds zs => [vs.getD 0 .non, zs.getD 0 .non, ds.getD 0 .non]) ([("most", V.int (999))] : List (Str × V)) F (by simp) (by simp) (fun r rm rz => .cons (gd_rel r 0) (.cons (gd_rel rz 0) (.cons (gd_rel rm 0) (.nil)))) fun D doc pm an cdv ct us mv ws l1 l2 l3 =>
    match us, mv, ws, l1, l2, l3 with
    | [u0], [m0], [w0], _, _, _ => ⟨_, _, _, _, _, _, rfl, rfl, rfl⟩
  exact ⟨d_number_in, by simp [ds], rfl, _, _, fa, fd, _, _, F, at_, kb, fun vs zs l1 l2 => match vs, zs, l1, l2 with | [v0], [z0], _, _ => ⟨rfl, rfl⟩⟩
theorem b_18 (h : At K mg d_is_name [] []) : BindAt K mg ("is_name", 1, []) := by
  obtain ⟨fa, fd, F, at_⟩ := h
  intro g ps e1 e2
  have e : (T.sig.lookup ("is_name" : Str)).bind (fun g => permOf g 1 []) = some ([.pos 0] : List GS.PA) := by rfl
  rw [e1] at e
  cases e2.symm.trans e
  have kb : KBn K fd d_is_name.ps 1 [] (fun us ws => [us.getD 0 .none]) (fun vs zs => [vs.getD 0 .non]) := kb_plain F (fun r rz => .cons (gd_rel r 0) (.nil)) fun dV kV doc pm an cdv ct us ws l1 l2 hd => by
    cases hd rfl
    match us, ws, l1, l2 with
    | [u0], [], _, _ => rfl
  exact ⟨d_is_name, by simp [ds], rfl, _, _, fa, fd, _, _, F, at_, kb, fun vs zs l1 l2 => match vs, zs, l1, l2 with | [v0], [], _, _ => ⟨rfl, rfl⟩⟩
theorem b_19 (h : At K mg d__law_is_name [] []) : BindAt K mg ("_law_is_name", 1, []) := by
  obtain ⟨fa, fd, F, at_⟩ := h
  intro g ps e1 e2
  have e : (T.sig.lookup ("_law_is_name" : Str)).bind (fun g => permOf g 1 []) = some ([.pos 0] : List GS.PA) := by rfl
  rw [e1] at e
  cases e2.symm.trans e
  have kb : KBn K fd d__law_is_name.ps 1 [] (fun us ws => [us.getD 0 .none]) (fun vs zs => [vs.getD 0 .non]) := kb_plain F (fun r rz => .cons (gd_rel r 0) (.nil)) fun dV kV doc pm an cdv ct us ws l1 l2 hd => by
    cases hd rfl
    match us, ws, l1, l2 with
    | [u0], [], _, _ => rfl
  exact ⟨d__law_is_name, by simp [ds], rfl, _, _, fa, fd, _, _, F, at_, kb, fun vs zs l1 l2 => match vs, zs, l1, l2 with | [v0], [], _, _ => ⟨rfl, rfl⟩⟩
variable {h : Heap}
theorem wld (X : K.In h) (G : h.Ns mainGlobals mg) (c : He.SaysD fa fn K) : Wld T prog K mg ds := by
  have a0 : At K mg d_is_whole [] [("least", V.int (0)), ("most", V.int (999))] := (c.def_ 0 (d := h_is_whole) rfl).elim fun fd F => ⟨_, fd, F, He.glo_ok X G (c.fact 0 (f := .glo "is_whole") rfl)⟩
  have a1 : At K mg d_is_name [] [] := (c.def_ 1 (d := h_is_name) rfl).elim fun fd F => ⟨_, fd, F, He.glo_ok X G (c.fact 1 (f := .glo "is_name") rfl)⟩
  have a2 : At K mg d_number_in [] [("least", V.int (0)), ("most", V.int (999))] := (c.def_ 2 (d := h_number_in) rfl).elim fun fd F => ⟨_, fd, F, He.glo_ok X G (c.fact 2 (f := .glo "number_in") rfl)⟩
  have a3 : At K mg d__law_begin [] [] := (c.def_ 3 (d := h__law_begin) rfl).elim fun fd F => ⟨_, fd, F, He.glo_ok X G (c.fact 3 (f := .glo "_law_begin") rfl)⟩
  have a4 : At K mg d__law_mixed [] [] := (c.def_ 4 (d := h__law_mixed) rfl).elim fun fd F => ⟨_, fd, F, He.glo_ok X G (c.fact 4 (f := .glo "_law_mixed") rfl)⟩
  have a5 : At K mg d__law_next [] [] := (c.def_ 5 (d := h__law_next) rfl).elim fun fd F => ⟨_, fd, F, He.glo_ok X G (c.fact 5 (f := .glo "_law_next") rfl)⟩
  have a6 : At K mg d__law_sign [] [] := (c.def_ 6 (d := h__law_sign) rfl).elim fun fd F => ⟨_, fd, F, He.glo_ok X G (c.fact 6 (f := .glo "_law_sign") rfl)⟩
  have a7 : At K mg d__law_bent [] [] := (c.def_ 7 (d := h__law_bent) rfl).elim fun fd F => ⟨_, fd, F, He.glo_ok X G (c.fact 7 (f := .glo "_law_bent") rfl)⟩
  have a8 : At K mg d__law_letters [] [] := (c.def_ 8 (d := h__law_letters) rfl).elim fun fd F => ⟨_, fd, F, He.glo_ok X G (c.fact 8 (f := .glo "_law_letters") rfl)⟩
  have a9 : At K mg d__law_some [] [] := (c.def_ 9 (d := h__law_some) rfl).elim fun fd F => ⟨_, fd, F, He.glo_ok X G (c.fact 9 (f := .glo "_law_some") rfl)⟩
  have a10 : At K mg d__law_is_name [] [] := (c.def_ 10 (d := h__law_is_name) rfl).elim fun fd F => ⟨_, fd, F, He.glo_ok X G (c.fact 10 (f := .glo "_law_is_name") rfl)⟩
  have a11 : At K mg d__law_read [] [] := (c.def_ 11 (d := h__law_read) rfl).elim fun fd F => ⟨_, fd, F, He.glo_ok X G (c.fact 11 (f := .glo "_law_read") rfl)⟩
  have a12 : At K mg d__law_is_whole [] [] := (c.def_ 12 (d := h__law_is_whole) rfl).elim fun fd F => ⟨_, fd, F, He.glo_ok X G (c.fact 12 (f := .glo "_law_is_whole") rfl)⟩
  have a13 : At K mg d__law_wholes_right [] [] := (c.def_ 13 (d := h__law_wholes_right) rfl).elim fun fd F => ⟨_, fd, F, He.glo_ok X G (c.fact 13 (f := .glo "_law_wholes_right") rfl)⟩
  have a14 : At K mg d__law_same [] [] := (c.def_ 14 (d := h__law_same) rfl).elim fun fd F => ⟨_, fd, F, He.glo_ok X G (c.fact 14 (f := .glo "_law_same") rfl)⟩
  have a15 : At K mg d_law [] [] := (c.def_ 15 (d := h_law) rfl).elim fun fd F => ⟨_, fd, F, He.glo_ok X G (c.fact 15 (f := .glo "law") rfl)⟩
  refine ⟨fun d hd => ?_, rfl, fun x hx => ?_, fun x hx => ?_, fun f g m ks ps h1 h2 h3 => ?_⟩
  · have all : ∀ d ∈ ds, DefOk T prog K mg d := List.forall_mem_cons.mpr ⟨⟨rfl, sc_is_whole, tr_is_whole, _, _, a0⟩, List.forall_mem_cons.mpr ⟨⟨rfl, sc_is_name, tr_is_name, _, _, a1⟩, List.forall_mem_cons.mpr ⟨⟨rfl, sc_number_in, tr_number_in, _, _, a2⟩, List.forall_mem_cons.mpr ⟨⟨rfl, sc__law_begin, tr__law_begin, _, _, a3⟩, List.forall_mem_cons.mpr ⟨⟨rfl, sc__law_mixed, tr__law_mixed, _, _, a4⟩, List.forall_mem_cons.mpr ⟨⟨rfl, sc__law_next, tr__law_next, _, _, a5⟩, List.forall_mem_cons.mpr ⟨⟨rfl, sc__law_sign, tr__law_sign, _, _, a6⟩, List.forall_mem_cons.mpr ⟨⟨rfl, sc__law_bent, tr__law_bent, _, _, a7⟩, List.forall_mem_cons.mpr ⟨⟨rfl, sc__law_letters, tr__law_letters, _, _, a8⟩, List.forall_mem_cons.mpr ⟨⟨rfl, sc__law_some, tr__law_some, _, _, a9⟩, List.forall_mem_cons.mpr ⟨⟨rfl, sc__law_is_name, tr__law_is_name, _, _, a10⟩, List.forall_mem_cons.mpr ⟨⟨rfl, sc__law_read, tr__law_read, _, _, a11⟩, List.forall_mem_cons.mpr ⟨⟨rfl, sc__law_is_whole, tr__law_is_whole, _, _, a12⟩, List.forall_mem_cons.mpr ⟨⟨rfl, sc__law_wholes_right, tr__law_wholes_right, _, _, a13⟩, List.forall_mem_cons.mpr ⟨⟨rfl, sc__law_same, tr__law_same, _, _, a14⟩, List.forall_mem_cons.mpr ⟨⟨rfl, sc_law, tr_law, _, _, a15⟩, List.forall_mem_nil _⟩⟩⟩⟩⟩⟩⟩⟩⟩⟩⟩⟩⟩⟩⟩⟩
    exact all d hd
  · have all : ∀ x ∈ T.free, mg x = none := List.forall_mem_cons.mpr ⟨He.free_ok X G (c.fact 16 (f := .free "all") rfl), List.forall_mem_cons.mpr ⟨He.free_ok X G (c.fact 17 (f := .free "int") rfl), List.forall_mem_cons.mpr ⟨He.free_ok X G (c.fact 18 (f := .free "range") rfl), List.forall_mem_cons.mpr ⟨He.free_ok X G (c.fact 19 (f := .free "isinstance") rfl), List.forall_mem_cons.mpr ⟨He.free_ok X G (c.fact 20 (f := .free "str") rfl), List.forall_mem_cons.mpr ⟨He.free_ok X G (c.fact 21 (f := .free "repr") rfl), List.forall_mem_cons.mpr ⟨He.free_ok X G (c.fact 22 (f := .free "bool") rfl), List.forall_mem_cons.mpr ⟨He.free_ok X G (c.fact 23 (f := .free "len") rfl), List.forall_mem_cons.mpr ⟨He.free_ok X G (c.fact 24 (f := .free "min") rfl), List.forall_mem_nil _⟩⟩⟩⟩⟩⟩⟩⟩⟩
    exact all x (List.contains_iff_mem.mp hx)
  · have all : ∀ x ∈ T.con, ∃ v u, mg x = some u ∧ RelV v u ∧ ∀ d, prog.G x = some d → ∀ W H, Rep K mg W H d v := List.forall_mem_cons.mpr ⟨(He.int_ok X G (c.fact 25 (f := .int "MOST" (999)) rfl)).elim fun t e => ⟨.int (999), _, e, ⟨t, rfl⟩, fun d q W H => (by cases (show some (PyData.int (999)) = some d from q); exact .int _)⟩, List.forall_mem_cons.mpr ⟨(He.str_ok X G (c.fact 26 (f := .str "SMALL" "abcdefghijklmnopqrstuvwxyz") rfl)).elim fun t e => ⟨.str "abcdefghijklmnopqrstuvwxyz", _, e, ⟨t, rfl⟩, fun d q W H => (by cases (show some (PyData.str "abcdefghijklmnopqrstuvwxyz") = some d from q); exact .str _ (by decide +kernel) (by decide +kernel))⟩, List.forall_mem_cons.mpr ⟨(He.str_ok X G (c.fact 27 (f := .str "FIGURES" "0123456789") rfl)).elim fun t e => ⟨.str "0123456789", _, e, ⟨t, rfl⟩, fun d q W H => (by cases (show some (PyData.str "0123456789") = some d from q); exact .str _ (by decide +kernel) (by decide +kernel))⟩, List.forall_mem_cons.mpr ⟨(He.int_ok X G (c.fact 28 (f := .int "MOST_LETTERS" (8)) rfl)).elim fun t e => ⟨.int (8), _, e, ⟨t, rfl⟩, fun d q W H => (by cases (show some (PyData.int (8)) = some d from q); exact .int _)⟩, List.forall_mem_cons.mpr ⟨(He.int_ok X G (c.fact 29 (f := .int "MOST_FIGURES" (5)) rfl)).elim fun t e => ⟨.int (5), _, e, ⟨t, rfl⟩, fun d q W H => (by cases (show some (PyData.int (5)) = some d from q); exact .int _)⟩, List.forall_mem_nil _⟩⟩⟩⟩⟩
    exact all x (List.contains_iff_mem.mp hx)
  · have all : ∀ p ∈ T.pats, BindAt K mg p := List.forall_mem_cons.mpr ⟨b_0 a3, List.forall_mem_cons.mpr ⟨b_1 a4, List.forall_mem_cons.mpr ⟨b_2 a5, List.forall_mem_cons.mpr ⟨b_3 a8, List.forall_mem_cons.mpr ⟨b_4 a0, List.forall_mem_cons.mpr ⟨b_5 a0, List.forall_mem_cons.mpr ⟨b_6 a0, List.forall_mem_cons.mpr ⟨b_7 a12, List.forall_mem_cons.mpr ⟨b_8 a9, List.forall_mem_cons.mpr ⟨b_9 a7, List.forall_mem_cons.mpr ⟨b_10 a13, List.forall_mem_cons.mpr ⟨b_11 a14, List.forall_mem_cons.mpr ⟨b_12 a6, List.forall_mem_cons.mpr ⟨b_13 a0, List.forall_mem_cons.mpr ⟨b_14 a2, List.forall_mem_cons.mpr ⟨b_15 a11, List.forall_mem_cons.mpr ⟨b_16 a2, List.forall_mem_cons.mpr ⟨b_17 a2, List.forall_mem_cons.mpr ⟨b_18 a1, List.forall_mem_cons.mpr ⟨b_19 a10, List.forall_mem_nil _⟩⟩⟩⟩⟩⟩⟩⟩⟩⟩⟩⟩⟩⟩⟩⟩⟩⟩⟩⟩
    exact all (f, m, ks) (List.contains_iff_mem.mp h2) g ps h1 h3
end
abbrev R : PySem.W.OpenRow := PySem.W.OpenLaw.row PySem.Challenge.rw_gateslack_k01_numbers_and_names
abbrev hk : PySem.W.Hook := He.hookD 4 fa fn
def ob (s : PySem.W.SharedT) : He.AlD := He.obsDG 4 fa fn (HandSHeadRun.getT s)
theorem ob_eq (s : PySem.W.SharedT) : ob s = hk.obs s.abs := He.obsDG_eq (HandSHeadRun.getT_eq s)
def loose : List Str := ["MOST", "SMALL", "FIGURES", "MOST_LETTERS", "MOST_FIGURES", "is_whole", "is_name", "number_in", "_law_begin", "_law_mixed", "_law_next", "_law_sign", "_law_bent", "_law_letters", "_law_some", "_law_is_name", "_law_read", "_law_is_whole", "_law_wholes_right", "_law_same"]
theorem topRun (w : World) : HandSHeadRun.RunEq R (PySem.W.view R.prog [22]) hk ob 4000 loose w := by
  intro os
  kernel_rfl
/-- the law, from the evaluator's answer -/
theorem holds_of (main : ∀ ns : List Int, ns.length ≤ 63 → GS.run prog 60 "law" [.d (.list (ns.map PyData.int))] = .ok (.d (.bool true)) none) : PySem.Challenge.rw_gateslack_k01_numbers_and_names.Holds := by
  w_on; o_law
  refine HandSHeadRun.head_any (r := R) (q := PySem.W.view R.prog [22]) (H := hk) (ob := ob) (M := 4000) (loose := loose) (d := HandSHeadRun.topDef R.prog 22) (kwd := []) ob_eq
    (by kernel_rfl) (fun s => by kernel_rfl) topRun (by kernel_rfl) (by kernel_rfl) (by kernel_rfl) (by rfl) (by first | assumption | decide +kernel) (by decide +kernel) ⟨rfl, rfl, rfl, rfl, rfl, by decide +kernel⟩ ?hw ?hc
  case hw => w_witness2
  case hc =>
    refine walk_law (l := PySem.Challenge.rw_gateslack_k01_numbers_and_names) (n := 63) (k := 60) (x := "script") rfl (by decide +kernel) (by kernel_rfl) ⟨rfl, by decide, by decide⟩ ?_
    intro w mg f h Y G hmg
    obtain ⟨K, kin, c⟩ := Y
    have W := wld kin G c
    obtain ⟨fd, F⟩ := c.def_ 15 (d := h_law) rfl
    have at_ : mg ("law" : Str) = some (.ref f) := by
      have e : (HandSHeadRun.topDef R.prog 22).name = ("law" : Str) := by kernel_rfl
      rw [← e]
      exact hmg
    have e := at_.symm.trans (He.glo_ok kin G (c.fact 15 (f := .glo "law") rfl))
    cases e
    refine ⟨K, fd, GS.run prog 60 "law", kin, fun s u => ?_, main, fun base => levels W 60 d_law (by simp [ds]) F⟩
    exact FunD.bindsA (ps := ["script"]) F (fun _ _ _ _ _ _ us hl => match us, hl with | [_], _ => rfl) s [u] rfl
end K01

namespace K01
open PySem GS
def k_is_whole : CSs := (.cons (.ret (.and (.isi (.var 0) "int") (.and (.not (.isi (.var 0) "bool")) (.chain .LtE .LtE (.var 1) (.var 0) (.var 2))))) .nil)
theorem fs_is_whole : prog.fs "is_whole" = some ⟨3, 3, none, k_is_whole⟩ := by kernel_rfl
def q_is_name_0 : GS.CE := .comp [1] (.nm 1) (.v (.var 0)) .nil (.cmp .In (.var 1) (.glob ("SMALL" : Str)))
def k_is_name : CSs := (.cons (.ife (.or (.not (.isi (.var 0) "str")) (.not (.chain .LtE .LtE (.con (.int (1))) (.bi "len" (.cons (.var 0) .nil)) (.glob ("MOST_LETTERS" : Str))))) (.cons (.ret (.con (.bool false))) .nil) .nil) (.cons (.ret (.bi "all" (.cons q_is_name_0 .nil))) .nil))
theorem fs_is_name : prog.fs "is_name" = some ⟨2, 1, none, k_is_name⟩ := by kernel_rfl
def q_number_in_0 : GS.CE := .comp [5] (.nm 5) (.v (.var 3)) .nil (.cmp .In (.var 5) (.glob ("FIGURES" : Str)))
def k_number_in : CSs := (.cons (.set 3 (.ite (.meth "startswith" (.var 0) (.cons (.con (.str ("-" : Str))) .nil)) (.slc (.var 0) (.cons (.con (.int (1))) .nil) .nil) (.var 0))) (.cons (.ife (.or (.not (.chain .LtE .LtE (.con (.int (1))) (.bi "len" (.cons (.var 3) .nil)) (.glob ("MOST_FIGURES" : Str)))) (.not (.bi "all" (.cons q_number_in_0 .nil)))) (.cons (.ret (.con (.none))) .nil) .nil) (.cons (.ife (.and (.meth "startswith" (.var 3) (.cons (.con (.str ("0" : Str))) .nil)) (.cmp .NotEq (.var 0) (.con (.str ("0" : Str))))) (.cons (.ret (.con (.none))) .nil) .nil) (.cons (.set 4 (.bi "int" (.cons (.var 0) .nil))) (.cons (.ret (.ite (.chain .LtE .LtE (.var 1) (.var 4) (.var 2)) (.var 4) (.con (.none)))) .nil)))))
theorem fs_number_in : prog.fs "number_in" = some ⟨6, 3, none, k_number_in⟩ := by kernel_rfl
def k__law_begin : CSs := (.cons (.ret (.dic [.str ("cells" : Str), .str ("at" : Str), .str ("left" : Str), .str ("used" : Str)] (.cons (.bin .Add (.var 0) (.lst (.cons (.con (.int (0))) .nil))) (.cons (.con (.int (0))) (.cons (.con (.int (0))) (.cons (.con (.int (0))) .nil)))))) .nil)
theorem fs__law_begin : prog.fs "_law_begin" = some ⟨1, 1, none, k__law_begin⟩ := by kernel_rfl
def k__law_mixed : CSs := (.cons (.set 2 (.bin .Mod (.bin .Add (.bin .Add (.bin .Add (.bin .Mod (.var 0) (.con (.int (1000000007)))) (.bin .Mult (.bin .Mult (.con (.int (7919))) (.var 1)) (.var 1))) (.bin .Mult (.con (.int (31))) (.var 1))) (.con (.int (7)))) (.con (.int (2147483647))))) (.cons (.set 2 (.bin .Mod (.bin .Mult (.bin .Mod (.bin .Mult (.var 2) (.var 2)) (.con (.int (2147483647)))) (.var 2)) (.con (.int (2147483629))))) (.cons (.ret (.bin .FloorDiv (.bin .Mod (.bin .Mult (.var 2) (.bin .Add (.con (.int (69621))) (.bin .Mult (.con (.int (2))) (.bin .Mod (.var 1) (.con (.int (1000))))))) (.con (.int (2147483647)))) (.con (.int (7))))) .nil)))
theorem fs__law_mixed : prog.fs "_law_mixed" = some ⟨3, 2, none, k__law_mixed⟩ := by kernel_rfl
def k__law_next : CSs := (.cons (.ife (.cmp .Gt (.idx (.var 0) (.con (.str ("left" : Str)))) (.con (.int (0)))) (.cons (.set 2 (.bin .Mod (.idx (.var 0) (.con (.str ("left" : Str)))) (.var 1))) (.cons (.dput 0 (.con (.str ("left" : Str))) (.bin .FloorDiv (.idx (.var 0) (.con (.str ("left" : Str)))) (.var 1))) (.cons (.ret (.var 2)) .nil))) .nil) (.cons (.set 3 (.idx (.var 0) (.con (.str ("cells" : Str))))) (.cons (.set 4 (.idx (.var 3) (.bin .Mod (.idx (.var 0) (.con (.str ("at" : Str)))) (.bi "len" (.cons (.var 3) .nil))))) (.cons (.dput 0 (.con (.str ("at" : Str))) (.bin .Add (.idx (.var 0) (.con (.str ("at" : Str)))) (.con (.int (1))))) (.cons (.ife (.and (.cmp .GtE (.var 4) (.bin .Pow (.con (.int (10))) (.con (.int (18))))) (.cmp .LtE (.idx (.var 0) (.con (.str ("at" : Str)))) (.bi "len" (.cons (.var 3) .nil)))) (.cons (.dput 0 (.con (.str ("left" : Str))) (.bin .FloorDiv (.var 4) (.var 1))) (.cons (.ret (.bin .Mod (.var 4) (.var 1))) .nil)) .nil) (.cons (.dput 0 (.con (.str ("used" : Str))) (.bin .Add (.idx (.var 0) (.con (.str ("used" : Str)))) (.con (.int (1))))) (.cons (.ret (.bin .Mod (.call ("_law_mixed" : Str) (.cons (.call ("_law_mixed" : Str) (.cons (.var 4) (.cons (.idx (.var 0) (.con (.str ("at" : Str)))) .nil)) [.pos 0, .pos 1]) (.cons (.idx (.var 0) (.con (.str ("used" : Str)))) .nil)) [.pos 0, .pos 1]) (.var 1))) .nil)))))))
theorem fs__law_next : prog.fs "_law_next" = some ⟨5, 2, some 0, k__law_next⟩ := by kernel_rfl
def k__law_sign : CSs := (.cons (.set 1 (.con (.str ("abcdefghijklmnopqrstuvwxyzABCDEFGHIJKLMNOPQRSTUVWXYZ0123456789 !\"#$&'()*+,-./:;<=>?\x40[\\]^_`{|}~\n" : Str)))) (.cons (.ret (.idx (.var 1) (.call ("_law_next" : Str) (.cons (.var 0) (.cons (.bi "len" (.cons (.var 1) .nil)) .nil)) [.io 0, .pos 1]))) .nil))
theorem fs__law_sign : prog.fs "_law_sign" = some ⟨2, 1, some 0, k__law_sign⟩ := by kernel_rfl
def k__law_bent : CSs := (.cons (.par 2 3 (.call ("_law_next" : Str) (.cons (.var 0) (.cons (.con (.int (6))) .nil)) [.io 0, .pos 1]) (.call ("_law_next" : Str) (.cons (.var 0) (.cons (.bin .Add (.bi "len" (.cons (.var 1) .nil)) (.con (.int (1)))) .nil)) [.io 0, .pos 1])) (.cons (.ife (.cmp .Gt (.var 2) (.con (.int (2)))) (.cons (.ret (.var 1)) .nil) .nil) (.cons (.ret (.bin .Add (.bin .Add (.slc (.var 1) .nil (.cons (.var 3) .nil)) (.idx (.lst (.cons (.call ("_law_sign" : Str) (.cons (.var 0) .nil) [.io 0]) (.cons (.con (.str ("" : Str))) (.cons (.call ("_law_sign" : Str) (.cons (.var 0) .nil) [.io 0]) .nil)))) (.var 2))) (.slc (.var 1) (.cons (.bin .Add (.var 3) (.bi "int" (.cons (.cmp .Gt (.var 2) (.con (.int (0)))) .nil))) .nil) .nil))) .nil)))
theorem fs__law_bent : prog.fs "_law_bent" = some ⟨4, 2, some 0, k__law_bent⟩ := by kernel_rfl
def q__law_letters_0 : GS.CE := .comp [3] (.nm 3) (.rng1 (.var 2)) .nil (.idx (.var 1) (.call ("_law_next" : Str) (.cons (.var 0) (.cons (.bi "len" (.cons (.var 1) .nil)) .nil)) [.io 0, .pos 1]))
def k__law_letters : CSs := (.cons (.set 2 (.idx (.lst (.cons (.con (.int (1))) (.cons (.con (.int (2))) (.cons (.con (.int (7))) (.cons (.con (.int (8))) (.cons (.con (.int (9))) (.cons (.call ("_law_next" : Str) (.cons (.var 0) (.cons (.con (.int (10))) .nil)) [.io 0, .pos 1]) .nil))))))) (.call ("_law_next" : Str) (.cons (.var 0) (.cons (.con (.int (6))) .nil)) [.io 0, .pos 1]))) (.cons (.ret (.meth "join" (.con (.str ("" : Str))) (.cons q__law_letters_0 .nil))) .nil))
theorem fs__law_letters : prog.fs "_law_letters" = some ⟨4, 2, some 0, k__law_letters⟩ := by kernel_rfl
def q__law_some_0 : GS.CE := .comp [6] (.nm 6) (.rng1 (.var 3)) .nil (.idx (.var 2) (.call ("_law_next" : Str) (.cons (.var 0) (.cons (.con (.int (10))) .nil)) [.io 0, .pos 1]))
def q__law_some_1 : GS.CE := .comp [7] (.nm 7) (.v (.var 5)) .nil (.call ("_law_bent" : Str) (.cons (.var 0) (.cons (.var 7) .nil)) [.io 0, .pos 1])
def k__law_some : CSs := (.cons (.tset (.tup [1, 2]) (.tup (.cons (.con (.str ("abcdefghijklmnopqrstuvwxyz" : Str))) (.cons (.con (.str ("0123456789" : Str))) .nil)))) (.cons (.set 3 (.idx (.lst (.cons (.con (.int (1))) (.cons (.con (.int (2))) (.cons (.con (.int (3))) (.cons (.con (.int (4))) (.cons (.con (.int (5))) (.cons (.con (.int (6))) .nil))))))) (.call ("_law_next" : Str) (.cons (.var 0) (.cons (.con (.int (6))) .nil)) [.io 0, .pos 1]))) (.cons (.set 4 (.meth "join" (.con (.str ("" : Str))) (.cons q__law_some_0 .nil))) (.cons (.set 5 (.lst (.cons (.call ("_law_letters" : Str) (.cons (.var 0) (.cons (.var 1) .nil)) [.io 0, .pos 1]) (.cons (.var 4) (.cons (.bin .Add (.con (.str ("-" : Str))) (.var 4)) (.cons (.bi "str" (.cons (.call ("_law_next" : Str) (.cons (.var 0) (.cons (.con (.int (1200))) .nil)) [.io 0, .pos 1]) .nil)) (.cons (.bin .Add (.con (.str ("-" : Str))) (.bi "str" (.cons (.call ("_law_next" : Str) (.cons (.var 0) (.cons (.con (.int (10200))) .nil)) [.io 0, .pos 1]) .nil))) .nil))))))) (.cons (.ret (.bin .Add q__law_some_1 (.lst (.cons (.con (.str ("" : Str))) (.cons (.con (.str (" " : Str))) (.cons (.con (.str ("-" : Str))) (.cons (.con (.str ("--1" : Str))) (.cons (.con (.str ("-0" : Str))) (.cons (.con (.str ("0" : Str))) (.cons (.con (.str ("00" : Str))) (.cons (.con (.str ("+1" : Str))) (.cons (.bin .Mult (.con (.str ("7" : Str))) (.con (.int (5000)))) (.cons (.con (.str ("1-" : Str))) .nil))))))))))))) .nil)))))
theorem fs__law_some : prog.fs "_law_some" = some ⟨8, 1, some 0, k__law_some⟩ := by kernel_rfl
def q__law_is_name_0 : GS.CE := .comp [2] (.nm 2) (.v (.var 0)) (.cons (.cmp .NotIn (.var 2) (.var 1)) .nil) (.var 2)
def k__law_is_name : CSs := (.cons (.set 1 (.con (.str ("abcdefghijklmnopqrstuvwxyz" : Str)))) (.cons (.ret (.and (.isi (.var 0) "str") (.and (.chain .Lt .Lt (.con (.int (0))) (.bi "len" (.cons (.var 0) .nil)) (.con (.int (9)))) (.cmp .Eq q__law_is_name_0 (.lst .nil))))) .nil))
theorem fs__law_is_name : prog.fs "_law_is_name" = some ⟨3, 1, none, k__law_is_name⟩ := by kernel_rfl
def q__law_read_0 : GS.CE := .comp [6] (.nm 6) (.v (.var 3)) (.cons (.cmp .NotIn (.var 6) (.con (.str ("0123456789" : Str)))) .nil) (.var 6)
def q__law_read_1 : CS := .for_ (.nm 6) (.v (.var 3)) (.cons (.set 5 (.bin .Add (.bin .Mult (.con (.int (10))) (.var 5)) (.meth "index" (.con (.str ("0123456789" : Str))) (.cons (.var 6) .nil)))) .nil)
def k__law_read : CSs := (.cons (.set 3 (.ite (.cmp .Eq (.slc (.var 0) .nil (.cons (.con (.int (1))) .nil)) (.con (.str ("-" : Str)))) (.slc (.var 0) (.cons (.con (.int (1))) .nil) .nil) (.var 0))) (.cons (.set 4 q__law_read_0) (.cons (.ife (.or (.not (.chain .Lt .Lt (.con (.int (0))) (.bi "len" (.cons (.var 3) .nil)) (.con (.int (6))))) (.or (.cmp .NotEq (.var 4) (.lst .nil)) (.and (.cmp .Eq (.idx (.var 3) (.con (.int (0)))) (.con (.str ("0" : Str)))) (.cmp .NotEq (.var 0) (.con (.str ("0" : Str))))))) (.cons (.ret (.con (.none))) .nil) .nil) (.cons (.set 5 (.con (.int (0)))) (.cons q__law_read_1 (.cons (.set 5 (.ite (.cmp .Eq (.slc (.var 0) .nil (.cons (.con (.int (1))) .nil)) (.con (.str ("-" : Str)))) (.bin .Sub (.con (.int (0))) (.var 5)) (.var 5))) (.cons (.ret (.ite (.chain .LtE .LtE (.var 1) (.var 5) (.var 2)) (.var 5) (.con (.none)))) .nil)))))))
theorem fs__law_read : prog.fs "_law_read" = some ⟨7, 3, none, k__law_read⟩ := by kernel_rfl
def k__law_is_whole : CSs := (.cons (.ret (.and (.isi (.var 0) "int") (.and (.not (.isi (.var 0) "bool")) (.chain .LtE .LtE (.var 1) (.var 0) (.var 2))))) .nil)
theorem fs__law_is_whole : prog.fs "_law_is_whole" = some ⟨3, 3, none, k__law_is_whole⟩ := by kernel_rfl
def k__law_wholes_right : CSs := (.cons (.set 1 (.bin .Sub (.call ("_law_next" : Str) (.cons (.var 0) (.cons (.con (.int (41))) .nil)) [.io 0, .pos 1]) (.con (.int (20))))) (.cons (.set 2 (.bin .Sub (.bin .Add (.var 1) (.call ("_law_next" : Str) (.cons (.var 0) (.cons (.con (.int (9))) .nil)) [.io 0, .pos 1])) (.con (.int (1))))) (.cons (.set 3 (.lst (.cons (.var 1) (.cons (.var 2) (.cons (.bin .Sub (.var 1) (.con (.int (1)))) (.cons (.bin .Add (.var 2) (.con (.int (1)))) (.cons (.con (.int (0))) (.cons (.bin .Pow (.con (.int (10))) (.con (.int (30)))) (.cons (.neg (.bin .Pow (.con (.int (10))) (.con (.int (30))))) (.cons (.con (.int (999))) (.cons (.con (.int (1000))) (.cons (.con (.none)) (.cons (.con (.bool true)) (.cons (.con (.bool false)) (.cons (.con (.str ("1" : Str))) (.cons (.lst (.cons (.con (.int (1))) .nil)) (.cons (.tup (.cons (.con (.int (1))) .nil)) (.cons (.dic [] .nil) .nil)))))))))))))))))) (.cons (.set 4 (.idx (.var 3) (.call ("_law_next" : Str) (.cons (.var 0) (.cons (.con (.int (16))) .nil)) [.io 0, .pos 1]))) (.cons (.set 5 (.lst (.cons (.call ("is_whole" : Str) (.cons (.var 4) (.cons (.var 2) (.cons (.var 1) .nil))) [.pos 0, .pos 2, .pos 1]) (.cons (.call ("is_whole" : Str) (.cons (.var 4) (.cons (.var 1) .nil)) [.pos 0, .pos 1, .dfl (.int (999))]) (.cons (.call ("is_whole" : Str) (.cons (.var 4) (.cons (.var 2) .nil)) [.pos 0, .dfl (.int (0)), .pos 1]) .nil))))) (.cons (.set 6 (.lst (.cons (.call ("_law_is_whole" : Str) (.cons (.var 4) (.cons (.var 1) (.cons (.var 2) .nil))) [.pos 0, .pos 1, .pos 2]) (.cons (.call ("_law_is_whole" : Str) (.cons (.var 4) (.cons (.var 1) (.cons (.con (.int (999))) .nil))) [.pos 0, .pos 1, .pos 2]) (.cons (.call ("_law_is_whole" : Str) (.cons (.var 4) (.cons (.con (.int (0))) (.cons (.var 2) .nil))) [.pos 0, .pos 1, .pos 2]) .nil))))) (.cons (.ret (.cmp .Eq (.bi "repr" (.cons (.bin .Add (.var 5) (.lst (.cons (.call ("is_whole" : Str) (.cons (.var 4) .nil) [.pos 0, .dfl (.int (0)), .dfl (.int (999))]) .nil))) .nil)) (.bi "repr" (.cons (.bin .Add (.var 6) (.lst (.cons (.call ("_law_is_whole" : Str) (.cons (.var 4) (.cons (.con (.int (0))) (.cons (.con (.int (999))) .nil))) [.pos 0, .pos 1, .pos 2]) .nil))) .nil)))) .nil)))))))
theorem fs__law_wholes_right : prog.fs "_law_wholes_right" = some ⟨7, 1, some 0, k__law_wholes_right⟩ := by kernel_rfl
def k__law_same : CSs := (.cons (.ife (.cmp .Is (.var 1) (.con (.none))) (.cons (.ret (.cmp .Is (.var 0) (.con (.none)))) .nil) .nil) (.cons (.ret (.and (.isi (.var 0) "int") (.and (.not (.isi (.var 0) "bool")) (.cmp .Eq (.var 0) (.var 1))))) .nil))
theorem fs__law_same : prog.fs "_law_same" = some ⟨2, 2, none, k__law_same⟩ := by kernel_rfl
def q_law_0 : CS := .for_ (.nm 5) (.v (.bin .Add (.var 4) (.lst (.cons (.var 3) .nil)))) (.cons (.ife (.cmp .NotEq (.bi "repr" (.cons (.lst (.cons (.call ("is_name" : Str) (.cons (.var 5) .nil) [.pos 0]) (.cons (.call ("is_name" : Str) (.cons (.var 5) .nil) [.pos 0]) .nil))) .nil)) (.bi "repr" (.cons (.rep (.lst (.cons (.call ("_law_is_name" : Str) (.cons (.var 5) .nil) [.pos 0]) .nil)) (.con (.int (2)))) .nil))) (.cons (.ret (.con (.bool false))) .nil) .nil) .nil)
def q_law_1 : CS := .for_ (.nm 8) (.v (.bin .Add (.var 4) (.lst (.cons (.bi "str" (.cons (.var 6) .nil)) (.cons (.bi "str" (.cons (.bin .Add (.var 6) (.con (.int (1)))) .nil)) (.cons (.bi "str" (.cons (.var 7) .nil)) (.cons (.bi "str" (.cons (.bin .Sub (.var 7) (.con (.int (1)))) .nil)) (.cons (.con (.str ("999" : Str))) (.cons (.con (.str ("1000" : Str))) .nil))))))))) (.cons (.ife (.not (.call ("_law_same" : Str) (.cons (.call ("number_in" : Str) (.cons (.var 8) (.cons (.var 6) (.cons (.var 7) .nil))) [.pos 0, .pos 2, .pos 1]) (.cons (.call ("_law_read" : Str) (.cons (.var 8) (.cons (.var 7) (.cons (.var 6) .nil))) [.pos 0, .pos 1, .pos 2]) .nil)) [.pos 0, .pos 1])) (.cons (.ret (.con (.bool false))) .nil) .nil) (.cons (.ife (.not (.call ("_law_same" : Str) (.cons (.call ("number_in" : Str) (.cons (.var 8) .nil) [.pos 0, .dfl (.int (0)), .dfl (.int (999))]) (.cons (.call ("_law_read" : Str) (.cons (.var 8) (.cons (.con (.int (0))) (.cons (.con (.int (999))) .nil))) [.pos 0, .pos 1, .pos 2]) .nil)) [.pos 0, .pos 1])) (.cons (.ret (.con (.bool false))) .nil) .nil) (.cons (.ife (.not (.call ("_law_same" : Str) (.cons (.call ("number_in" : Str) (.cons (.var 8) (.cons (.var 7) .nil)) [.pos 0, .pos 1, .dfl (.int (999))]) (.cons (.call ("_law_read" : Str) (.cons (.var 8) (.cons (.var 7) (.cons (.con (.int (999))) .nil))) [.pos 0, .pos 1, .pos 2]) .nil)) [.pos 0, .pos 1])) (.cons (.ret (.con (.bool false))) .nil) .nil) .nil)))
def q_law_2 : CS := .for_ (.nm 2) (.rng1 (.bin .Add (.bi "min" (.cons (.con (.int (40))) (.cons (.bi "len" (.cons (.var 0) .nil)) .nil))) (.con (.int (1))))) (.cons (.set 3 (.idx (.lst (.cons (.con (.none)) (.cons (.con (.int (5))) (.cons (.con (.bool true)) (.cons (.lst (.cons (.con (.str ("a" : Str))) .nil)) (.cons (.tup (.cons (.con (.str ("a" : Str))) .nil)) (.cons (.dic [] .nil) (.cons (.con (.int (7))) (.cons (.tup (.cons (.con (.str ("1" : Str))) .nil)) .nil))))))))) (.call ("_law_next" : Str) (.cons (.var 1) (.cons (.con (.int (8))) .nil)) [.io 0, .pos 1]))) (.cons (.set 4 (.call ("_law_some" : Str) (.cons (.var 1) .nil) [.io 0])) (.cons q_law_0 (.cons (.set 6 (.idx (.lst (.cons (.call ("_law_next" : Str) (.cons (.var 1) (.cons (.con (.int (100000))) .nil)) [.io 0, .pos 1]) (.cons (.con (.int (999))) (.cons (.con (.int (99999))) (.cons (.con (.int (0))) (.cons (.call ("_law_next" : Str) (.cons (.var 1) (.cons (.con (.int (30))) .nil)) [.io 0, .pos 1]) (.cons (.con (.int (9999))) .nil))))))) (.call ("_law_next" : Str) (.cons (.var 1) (.cons (.con (.int (6))) .nil)) [.io 0, .pos 1]))) (.cons (.set 7 (.idx (.lst (.cons (.con (.int (0))) (.cons (.bin .Sub (.con (.int (0))) (.call ("_law_next" : Str) (.cons (.var 1) (.cons (.con (.int (10000))) .nil)) [.io 0, .pos 1])) (.cons (.neg (.con (.int (9999)))) (.cons (.var 6) (.cons (.neg (.con (.int (1)))) .nil)))))) (.call ("_law_next" : Str) (.cons (.var 1) (.cons (.con (.int (5))) .nil)) [.io 0, .pos 1]))) (.cons q_law_1 (.cons (.ife (.not (.call ("_law_wholes_right" : Str) (.cons (.var 1) .nil) [.io 0])) (.cons (.ret (.con (.bool false))) .nil) .nil) .nil)))))))
def k_law : CSs := (.cons (.set 1 (.call ("_law_begin" : Str) (.cons (.var 0) .nil) [.pos 0])) (.cons (.ife (.cmp .NotEq (.glob ("MOST" : Str)) (.con (.int (999)))) (.cons (.ret (.con (.bool false))) .nil) .nil) (.cons q_law_2 (.cons (.ret (.con (.bool true))) .nil))))
theorem fs_law : prog.fs "law" = some ⟨9, 1, none, k_law⟩ := by kernel_rfl
end K01

namespace K01
open PySem GS
/-! ### is_whole -/
def wholeD (x : D) (lo hi : Int) : Bool := match x with | .int i => decide (lo ≤ i) && decide (i ≤ hi) | _ => false
theorem r_is_whole (k : Nat) (x : D) (hx : isFnD x = false) (lo hi : Int) : run prog (k + 1) "is_whole" [.d x, .d (.int lo), .d (.int hi)] = .ok (.d (.bool (wholeD x lo hi))) none := by
  rw [run_at fs_is_whole]
  cases x with
  | int i => by_cases h1 : lo ≤ i <;> by_cases h2 : i ≤ hi <;> simp [GS.ioFits, GS.startS, GS.slOf, List.range, List.range.loop, GS.exB, GS.exS, GS.ev, GS.evs, GS.evT, GS.evB, GS.evI, GS.bind_ok, GS.opt_some, GS.retV, GS.endF, GS.outOf, GS.RV.opd, GS.Opd.get, GS.getAll, GS.isiD, GS.isFnD, GS.tyD, GS.truD, GS.cmpD, GS.binD, GS.putV, GS.putS, GS.frz, GS.frzL, GS.isIo, GS.biD, GS.D.len, GS.argsOf, GS.frzA, GS.getV, GS.lentOf, GS.outTo, GS.flatR, GS.ownAt, GS.setOb, GS.isOwn, GS.wipeC, GS.wipeS, GS.backS, GS.tgIn, GS.noX, GS.itemsD, GS.Ob.toD, GS.isNonD, GS.ltD, k_is_whole, wholeD, h1, h2]
  | dict kvs =>
    have hx' : isFnB kvs = false := hx
    simp [GS.ioFits, GS.startS, GS.slOf, List.range, List.range.loop, GS.exB, GS.exS, GS.ev, GS.evs, GS.evT, GS.evB, GS.evI, GS.bind_ok, GS.opt_some, GS.retV, GS.endF, GS.outOf, GS.RV.opd, GS.Opd.get, GS.getAll, GS.isiD, GS.isFnD, GS.tyD, GS.truD, GS.cmpD, GS.binD, GS.putV, GS.putS, GS.frz, GS.frzL, GS.isIo, GS.biD, GS.D.len, GS.argsOf, GS.frzA, GS.getV, GS.lentOf, GS.outTo, GS.flatR, GS.ownAt, GS.setOb, GS.isOwn, GS.wipeC, GS.wipeS, GS.backS, GS.tgIn, GS.noX, GS.itemsD, GS.Ob.toD, GS.isNonD, GS.ltD, k_is_whole, wholeD, hx']
  | _ => simp [GS.ioFits, GS.startS, GS.slOf, List.range, List.range.loop, GS.exB, GS.exS, GS.ev, GS.evs, GS.evT, GS.evB, GS.evI, GS.bind_ok, GS.opt_some, GS.retV, GS.endF, GS.outOf, GS.RV.opd, GS.Opd.get, GS.getAll, GS.isiD, GS.isFnD, GS.tyD, GS.truD, GS.cmpD, GS.binD, GS.putV, GS.putS, GS.frz, GS.frzL, GS.isIo, GS.biD, GS.D.len, GS.argsOf, GS.frzA, GS.getV, GS.lentOf, GS.outTo, GS.flatR, GS.ownAt, GS.setOb, GS.isOwn, GS.wipeC, GS.wipeS, GS.backS, GS.tgIn, GS.noX, GS.itemsD, GS.Ob.toD, GS.isNonD, GS.ltD, k_is_whole, wholeD]
theorem r_law_is_whole (k : Nat) (x : D) (hx : isFnD x = false) (lo hi : Int) : run prog (k + 1) "_law_is_whole" [.d x, .d (.int lo), .d (.int hi)] = .ok (.d (.bool (wholeD x lo hi))) none := by
  rw [run_at fs__law_is_whole]
  cases x with
  | int i => by_cases h1 : lo ≤ i <;> by_cases h2 : i ≤ hi <;> simp [GS.ioFits, GS.startS, GS.slOf, List.range, List.range.loop, GS.exB, GS.exS, GS.ev, GS.evs, GS.evT, GS.evB, GS.evI, GS.bind_ok, GS.opt_some, GS.retV, GS.endF, GS.outOf, GS.RV.opd, GS.Opd.get, GS.getAll, GS.isiD, GS.isFnD, GS.tyD, GS.truD, GS.cmpD, GS.binD, GS.putV, GS.putS, GS.frz, GS.frzL, GS.isIo, GS.biD, GS.D.len, GS.argsOf, GS.frzA, GS.getV, GS.lentOf, GS.outTo, GS.flatR, GS.ownAt, GS.setOb, GS.isOwn, GS.wipeC, GS.wipeS, GS.backS, GS.tgIn, GS.noX, GS.itemsD, GS.Ob.toD, GS.isNonD, GS.ltD, k__law_is_whole, wholeD, h1, h2]
  | dict kvs =>
    have hx' : isFnB kvs = false := hx
    simp [GS.ioFits, GS.startS, GS.slOf, List.range, List.range.loop, GS.exB, GS.exS, GS.ev, GS.evs, GS.evT, GS.evB, GS.evI, GS.bind_ok, GS.opt_some, GS.retV, GS.endF, GS.outOf, GS.RV.opd, GS.Opd.get, GS.getAll, GS.isiD, GS.isFnD, GS.tyD, GS.truD, GS.cmpD, GS.binD, GS.putV, GS.putS, GS.frz, GS.frzL, GS.isIo, GS.biD, GS.D.len, GS.argsOf, GS.frzA, GS.getV, GS.lentOf, GS.outTo, GS.flatR, GS.ownAt, GS.setOb, GS.isOwn, GS.wipeC, GS.wipeS, GS.backS, GS.tgIn, GS.noX, GS.itemsD, GS.Ob.toD, GS.isNonD, GS.ltD, k__law_is_whole, wholeD, hx']
  | _ => simp [GS.ioFits, GS.startS, GS.slOf, List.range, List.range.loop, GS.exB, GS.exS, GS.ev, GS.evs, GS.evT, GS.evB, GS.evI, GS.bind_ok, GS.opt_some, GS.retV, GS.endF, GS.outOf, GS.RV.opd, GS.Opd.get, GS.getAll, GS.isiD, GS.isFnD, GS.tyD, GS.truD, GS.cmpD, GS.binD, GS.putV, GS.putS, GS.frz, GS.frzL, GS.isIo, GS.biD, GS.D.len, GS.argsOf, GS.frzA, GS.getV, GS.lentOf, GS.outTo, GS.flatR, GS.ownAt, GS.setOb, GS.isOwn, GS.wipeC, GS.wipeS, GS.backS, GS.tgIn, GS.noX, GS.itemsD, GS.Ob.toD, GS.isNonD, GS.ltD, k__law_is_whole, wholeD]
/-! ### the draw -/
structure Dr where
  cells : List Int
  at_ : Int
  left : Int
  used : Int
def Dr.kv (d : Dr) : List (D × D) := [(.str "cells", .list (d.cells.map .int)), (.str "at", .int d.at_), (.str "left", .int d.left), (.str "used", .int d.used)]
def Dr.ob (d : Dr) : Ob := .dic d.kv
theorem g_cells (d : Dr) : idxD (.dict d.kv) (.str "cells") = some (.list (d.cells.map .int)) := by rfl
theorem g_at (d : Dr) : idxD (.dict d.kv) (.str "at") = some (.int d.at_) := by rfl
theorem g_left (d : Dr) : idxD (.dict d.kv) (.str "left") = some (.int d.left) := by rfl
theorem g_used (d : Dr) : idxD (.dict d.kv) (.str "used") = some (.int d.used) := by rfl
theorem p_at (d : Dr) (x : Int) : mutD "setitem" (.dic d.kv) [.str "at", .int x] = some (.none, .dic { d with at_ := x }.kv) := by rfl
theorem p_left (d : Dr) (x : Int) : mutD "setitem" (.dic d.kv) [.str "left", .int x] = some (.none, .dic { d with left := x }.kv) := by rfl
theorem p_used (d : Dr) (x : Int) : mutD "setitem" (.dic d.kv) [.str "used", .int x] = some (.none, .dic { d with used := x }.kv) := by rfl
structure Dr.Ok (d : Dr) (b : Int) : Prop where
  ne : d.cells ≠ []
  sz : d.cells.length ≤ 64
  a0 : 0 ≤ d.at_
  a1 : d.at_ ≤ b
  l0 : 0 ≤ d.left
  u0 : 0 ≤ d.used
  u1 : d.used ≤ b
theorem r_mixed (k : Nat) (c m : Int) (hm : 0 ≤ m) (hm2 : m < 2 ^ 40) : ∃ v, run prog (k + 1) "_law_mixed" [.d (.int c), .d (.int m)] = .ok (.d (.int v)) none ∧ 0 ≤ v := by
  have m1 : mulOk 7919 m = true := by unfold mulOk; simp
  have m2 : mulOk (7919 * m) m = true := by unfold mulOk; simp; right; omega
  have m3 : mulOk 31 m = true := by unfold mulOk; simp
  generalize hn : ((c % 1000000007 + 7919 * m * m + 31 * m + 7) % 2147483647) = n
  have n0 : 0 ≤ n := by omega
  have n1 : n < 2147483647 := by omega
  have m4 : mulOk n n = true := by unfold mulOk; simp; omega
  have m5 : mulOk (n * n % 2147483647) n = true := by unfold mulOk; simp; right; omega
  generalize hq : (n * n % 2147483647 * n % 2147483629) = q
  have q0 : 0 ≤ q := by omega
  have q1 : q < 2147483629 := by omega
  have m6 : mulOk 2 (m % 1000) = true := by unfold mulOk; simp
  have m7 : mulOk q (69621 + 2 * (m % 1000)) = true := by unfold mulOk; simp; left; omega
  refine ⟨q * (69621 + 2 * (m % 1000)) % 2147483647 / 7, ?_, by omega⟩
  rw [run_at fs__law_mixed]
  simp [GS.ioFits, GS.startS, GS.slOf, List.range, List.range.loop, GS.exB, GS.exS, GS.ev, GS.evs, GS.evT, GS.evB, GS.evI, GS.bind_ok, GS.opt_some, GS.retV, GS.endF, GS.outOf, GS.RV.opd, GS.Opd.get, GS.getAll, GS.isiD, GS.isFnD, GS.tyD, GS.truD, GS.cmpD, GS.binD, GS.putV, GS.putS, GS.frz, GS.frzL, GS.isIo, GS.biD, GS.D.len, GS.argsOf, GS.frzA, GS.getV, GS.lentOf, GS.outTo, GS.flatR, GS.ownAt, GS.setOb, GS.isOwn, GS.wipeC, GS.wipeS, GS.backS, GS.tgIn, GS.noX, GS.itemsD, GS.Ob.toD, GS.isNonD, GS.ltD, k__law_mixed, m1, m2, m3, hn, m4, m5, hq, m6, m7]
theorem at_cell {d : Dr} {b : Int} (h : d.Ok b) : ∃ c, idxD (.list (d.cells.map .int)) (.int (d.at_ % (d.cells.length : Int))) = some (.int c) := by
  have hn : 0 < d.cells.length := List.length_pos_iff.mpr h.ne
  have h1 : 0 ≤ d.at_ % (d.cells.length : Int) := Int.emod_nonneg _ (by omega)
  have h2 : d.at_ % (d.cells.length : Int) < (d.cells.length : Int) := Int.emod_lt_of_pos _ (by omega)
  obtain ⟨j, hj⟩ : ∃ j : Nat, (j : Int) = d.at_ % (d.cells.length : Int) := ⟨_, Int.toNat_of_nonneg h1⟩
  have hl : j < d.cells.length := by omega
  refine ⟨d.cells[j], ?_⟩
  rw [← hj]
  exact L2.atI_nat (by rw [List.getElem?_map, List.getElem?_eq_getElem hl]; rfl)
end K01

namespace K01
open PySem GS
theorem r_next (k : Nat) (d : Dr) (b : Int) (h : d.Ok b) (hb : b < 2 ^ 39) (m : Int) (m0 : 0 < m) (m1 : m < 1073741824) :
    ∃ (v : Int) (d' : Dr), run prog (k + 2) "_law_next" [.io d.ob, .d (.int m)] = .ok (.d (.int v)) (some d'.ob) ∧ 0 ≤ v ∧ v < m ∧ d'.Ok (b + 1) := by
  have hm0 := m0
  by_cases hl : 0 < d.left
  · refine ⟨d.left % m, { d with left := d.left / m }, ?_, Int.emod_nonneg _ (by omega), Int.emod_lt_of_pos _ m0, h.ne, h.sz, h.a0, ?_, Int.ediv_nonneg h.l0 (by omega), h.u0, ?_⟩
    · rw [run_at fs__law_next]
      simp [GS.ioFits, GS.startS, GS.slOf, List.range, List.range.loop, GS.exB, GS.exS, GS.ev, GS.evs, GS.evT, GS.evB, GS.evI, GS.bind_ok, GS.opt_some, GS.retV, GS.endF, GS.outOf, GS.RV.opd, GS.Opd.get, GS.getAll, GS.isiD, GS.isFnD, GS.tyD, GS.truD, GS.cmpD, GS.binD, GS.putV, GS.putS, GS.frz, GS.frzL, GS.isIo, GS.biD, GS.D.len, GS.argsOf, GS.frzA, GS.getV, GS.lentOf, GS.outTo, GS.flatR, GS.ownAt, GS.setOb, GS.isOwn, GS.wipeC, GS.wipeS, GS.backS, GS.tgIn, GS.noX, GS.itemsD, GS.Ob.toD, GS.isNonD, GS.ltD, k__law_next, Dr.ob, g_left, p_left, hl, m0, m1]
    · show d.at_ ≤ b + 1; have := h.a1; omega
    · show d.used ≤ b + 1; have := h.u1; omega
  · obtain ⟨c, hc⟩ := at_cell h
    have hn : 0 < d.cells.length := List.length_pos_iff.mpr h.ne
    have ha := h.a0; have ha1 := h.a1; have hu := h.u0; have hu1 := h.u1
    by_cases hbig : 1000000000000000000 ≤ c ∧ d.at_ + 1 ≤ (d.cells.length : Int)
    · refine ⟨c % m, { d with at_ := d.at_ + 1, left := c / m }, ?_, Int.emod_nonneg _ (by omega), Int.emod_lt_of_pos _ m0, h.ne, h.sz, ?_, ?_, Int.ediv_nonneg (by omega) (by omega), h.u0, ?_⟩
      · rw [run_at fs__law_next]
        have p1 := p_at d (d.at_ + 1)
        have p2 := p_left { d with at_ := d.at_ + 1 } (c / m)
        simp [GS.ioFits, GS.startS, GS.slOf, List.range, List.range.loop, GS.exB, GS.exS, GS.ev, GS.evs, GS.evT, GS.evB, GS.evI, GS.bind_ok, GS.opt_some, GS.retV, GS.endF, GS.outOf, GS.RV.opd, GS.Opd.get, GS.getAll, GS.isiD, GS.isFnD, GS.tyD, GS.truD, GS.cmpD, GS.binD, GS.putV, GS.putS, GS.frz, GS.frzL, GS.isIo, GS.biD, GS.D.len, GS.argsOf, GS.frzA, GS.getV, GS.lentOf, GS.outTo, GS.flatR, GS.ownAt, GS.setOb, GS.isOwn, GS.wipeC, GS.wipeS, GS.backS, GS.tgIn, GS.noX, GS.itemsD, GS.Ob.toD, GS.isNonD, GS.ltD, k__law_next, Dr.ob, g_left, g_cells, g_at, hl, m0, m1, hc, hbig.1, hbig.2, hn, p1, p2]
      · show 0 ≤ d.at_ + 1; omega
      · show d.at_ + 1 ≤ b + 1; omega
      · show d.used ≤ b + 1; omega
    · obtain ⟨v1, e1, w1⟩ := r_mixed k c (d.at_ + 1) (by omega) (by omega)
      obtain ⟨v2, e2, w2⟩ := r_mixed k v1 (d.used + 1) (by omega) (by omega)
      refine ⟨v2 % m, { d with at_ := d.at_ + 1, used := d.used + 1 }, ?_, Int.emod_nonneg _ (by omega), Int.emod_lt_of_pos _ m0, h.ne, h.sz, ?_, ?_, h.l0, ?_, ?_⟩
      · rw [run_at fs__law_next]
        have p1 := p_at d (d.at_ + 1)
        have p2 := p_used { d with at_ := d.at_ + 1 } (d.used + 1)
        have g1 := g_at { d with at_ := d.at_ + 1 }
        have g2 := g_used { d with at_ := d.at_ + 1 }
        have g3 := g_used { d with at_ := d.at_ + 1, used := d.used + 1 }
        have g4 := g_at { d with at_ := d.at_ + 1, used := d.used + 1 }
        by_cases h1 : 1000000000000000000 ≤ c
        · have h2 : ¬ d.at_ + 1 ≤ (d.cells.length : Int) := fun z => hbig ⟨h1, z⟩
          simp [GS.ioFits, GS.startS, GS.slOf, List.range, List.range.loop, GS.exB, GS.exS, GS.ev, GS.evs, GS.evT, GS.evB, GS.evI, GS.bind_ok, GS.opt_some, GS.retV, GS.endF, GS.outOf, GS.RV.opd, GS.Opd.get, GS.getAll, GS.isiD, GS.isFnD, GS.tyD, GS.truD, GS.cmpD, GS.binD, GS.putV, GS.putS, GS.frz, GS.frzL, GS.isIo, GS.biD, GS.D.len, GS.argsOf, GS.frzA, GS.getV, GS.lentOf, GS.outTo, GS.flatR, GS.ownAt, GS.setOb, GS.isOwn, GS.wipeC, GS.wipeS, GS.backS, GS.tgIn, GS.noX, GS.itemsD, GS.Ob.toD, GS.isNonD, GS.ltD, k__law_next, Dr.ob, g_left, g_cells, g_at, hl, m0, m1, hc, h1, h2, hn, p1, p2, g1, g2, g3, g4, e1, e2]
        · simp [GS.ioFits, GS.startS, GS.slOf, List.range, List.range.loop, GS.exB, GS.exS, GS.ev, GS.evs, GS.evT, GS.evB, GS.evI, GS.bind_ok, GS.opt_some, GS.retV, GS.endF, GS.outOf, GS.RV.opd, GS.Opd.get, GS.getAll, GS.isiD, GS.isFnD, GS.tyD, GS.truD, GS.cmpD, GS.binD, GS.putV, GS.putS, GS.frz, GS.frzL, GS.isIo, GS.biD, GS.D.len, GS.argsOf, GS.frzA, GS.getV, GS.lentOf, GS.outTo, GS.flatR, GS.ownAt, GS.setOb, GS.isOwn, GS.wipeC, GS.wipeS, GS.backS, GS.tgIn, GS.noX, GS.itemsD, GS.Ob.toD, GS.isNonD, GS.ltD, k__law_next, Dr.ob, g_left, g_cells, g_at, hl, m0, m1, hc, h1, hn, p1, p2, g1, g2, g3, g4, e1, e2]
      · show 0 ≤ d.at_ + 1; omega
      · show d.at_ + 1 ≤ b + 1; omega
      · show 0 ≤ d.used + 1; omega
      · show d.used + 1 ≤ b + 1; omega
end K01

namespace K01
open PySem GS
structure Wd (n : Nat) (x : Str) : Prop where
  ok : PyData.strOk x = true
  len : x.length ≤ n
theorem Wd.mono {m n : Nat} {x : Str} (h : Wd m x) (l : m ≤ n) : Wd n x := ⟨h.ok, Nat.le_trans h.len l⟩
theorem idx_str {x : Str} {v : Int} (h0 : 0 ≤ v) (h1 : v < (x.length : Int)) : ∃ c, idxD (.str x) (.int v) = some (chr1 c) ∧ c ∈ x.cps.toList := by
  obtain ⟨j, rfl⟩ : ∃ j : Nat, (j : Int) = v := ⟨_, Int.toNat_of_nonneg h0⟩
  have hl : j < x.cps.toList.length := by
    have : j < x.cps.size := by
      have := h1
      show j < x.length
      omega
    simpa using this
  refine ⟨x.cps.toList[j], ?_, List.getElem_mem hl⟩
  show (L2.atI x.cps.toList (j : Int)).map chr1 = _
  rw [L2.atI_nat (List.getElem?_eq_getElem hl)]
  rfl
theorem Wd.chr {x : Str} {c : Nat} (h : PyData.strOk x = true) (m : c ∈ x.cps.toList) : Wd 1 ⟨#[c]⟩ := ⟨strOk_chr h m, Nat.le_refl _⟩
theorem Wd.add {m n : Nat} {x y : Str} (h : Wd m x) (q : Wd n y) : Wd (m + n) (x ++ y) := ⟨strOk_app h.ok q.ok, by rw [Str.length_append]; exact Nat.add_le_add h.len q.len⟩
theorem Wd.cut {n : Nat} {x : Str} {lo hi : Option Int} (h : Wd n x) : Wd n (L2.cutS x lo hi) := ⟨strOk_cut h.ok, Nat.le_trans (L2.cutS_length _ _ _) h.len⟩
theorem add_str {n m : Nat} {x y : Str} (h : Wd n x) (q : Wd m y) (l : n + m ≤ sizeLine) : binD .Add (.str x) (.str y) = some (.d (.str (x ++ y))) := by
  show (if x.length + y.length ≤ sizeLine then some (RV.d (.str (x ++ y))) else none) = _
  rw [if_pos (Nat.le_trans (Nat.add_le_add h.len q.len) l)]
def signs : Str := "abcdefghijklmnopqrstuvwxyzABCDEFGHIJKLMNOPQRSTUVWXYZ0123456789 !\"#$&'()*+,-./:;<=>?\x40[\\]^_`{|}~\n"
theorem signs_ok : PyData.strOk signs = true := by decide +kernel
theorem signs_len : signs.length = 95 := by decide +kernel
theorem r_sign (k : Nat) (d : Dr) (b : Int) (h : d.Ok b) (hb : b < 2 ^ 39) :
    ∃ (x : Str) (d' : Dr), run prog (k + 3) "_law_sign" [.io d.ob] = .ok (.d (.str x)) (some d'.ob) ∧ Wd 1 x ∧ d'.Ok (b + 1) := by
  obtain ⟨v, d', e, v0, v1, h'⟩ := r_next k d b h hb 95 (by decide) (by decide)
  obtain ⟨c, hc, mc⟩ := idx_str (x := signs) v0 (by rw [signs_len]; exact v1)
  refine ⟨⟨#[c]⟩, d', ?_, .chr signs_ok mc, h'⟩
  rw [run_at fs__law_sign]
  have hk : k__law_sign = (.cons (.set 1 (.con (.str signs))) (.cons (.ret (.idx (.var 1) (.call ("_law_next" : Str) (.cons (.var 0) (.cons (.bi "len" (.cons (.var 1) .nil)) .nil)) [.io 0, .pos 1]))) .nil)) := rfl
  have hc' : idxD (.str signs) (.int v) = some (.str ⟨#[c]⟩) := hc
  simp [GS.ioFits, GS.startS, GS.slOf, List.range, List.range.loop, GS.exB, GS.exS, GS.ev, GS.evs, GS.evT, GS.evB, GS.evI, GS.bind_ok, GS.opt_some, GS.retV, GS.endF, GS.outOf, GS.RV.opd, GS.Opd.get, GS.getAll, GS.isiD, GS.isFnD, GS.tyD, GS.truD, GS.cmpD, GS.binD, GS.putV, GS.putS, GS.frz, GS.frzL, GS.isIo, GS.biD, GS.D.len, GS.argsOf, GS.frzA, GS.getV, GS.lentOf, GS.outTo, GS.flatR, GS.ownAt, GS.setOb, GS.isOwn, GS.wipeC, GS.wipeS, GS.backS, GS.tgIn, GS.noX, GS.itemsD, GS.Ob.toD, GS.isNonD, GS.ltD, hk, Dr.ob, signs_len, hc', e]
  have e' := e
  simp only [Dr.ob] at e'
  rw [e']
  simp [GS.ioFits, GS.startS, GS.slOf, List.range, List.range.loop, GS.exB, GS.exS, GS.ev, GS.evs, GS.evT, GS.evB, GS.evI, GS.bind_ok, GS.opt_some, GS.retV, GS.endF, GS.outOf, GS.RV.opd, GS.Opd.get, GS.getAll, GS.isiD, GS.isFnD, GS.tyD, GS.truD, GS.cmpD, GS.binD, GS.putV, GS.putS, GS.frz, GS.frzL, GS.isIo, GS.biD, GS.D.len, GS.argsOf, GS.frzA, GS.getV, GS.lentOf, GS.outTo, GS.flatR, GS.ownAt, GS.setOb, GS.isOwn, GS.wipeC, GS.wipeS, GS.backS, GS.tgIn, GS.noX, GS.itemsD, GS.Ob.toD, GS.isNonD, GS.ltD, hc']
end K01

namespace K01
open PySem GS
theorem three {v : Int} (h0 : 0 ≤ v) (h1 : v < 3) : v = 0 ∨ v = 1 ∨ v = 2 := by omega
theorem r_bent (k : Nat) (d : Dr) (b : Int) (h : d.Ok b) (hb : b + 4 < 2 ^ 39) (n : Nat) (hn : n ≤ 6000) (w : Str) (hw : Wd n w) :
    ∃ (x : Str) (d' : Dr), run prog (k + 4) "_law_bent" [.io d.ob, .d (.str w)] = .ok (.d (.str x)) (some d'.ob) ∧ Wd (n + 1 + n) x ∧ d'.Ok (b + 4) := by
  have hsl : sizeLine = 16777216 := sizeLine_eq
  have hwl := hw.len
  obtain ⟨way, d1, e1, v0, v1, h1⟩ := r_next (k + 1) d b h (by omega) 6 (by decide) (by decide)
  obtain ⟨at_, d2, e2, a0, a1, h2⟩ := r_next (k + 1) d1 (b + 1) h1 (by omega) ((w.length : Int) + 1) (by omega) (by omega)
  by_cases hway : 2 < way
  · refine ⟨w, d2, ?_, hw.mono (by omega), h2.ne, h2.sz, h2.a0, by have := h2.a1; omega, h2.l0, h2.u0, by have := h2.u1; omega⟩
    rw [run_at fs__law_bent]
    simp [GS.ioFits, GS.startS, GS.slOf, List.range, List.range.loop, GS.exB, GS.exS, GS.ev, GS.evs, GS.evT, GS.evB, GS.evI, GS.bind_ok, GS.opt_some, GS.retV, GS.endF, GS.outOf, GS.RV.opd, GS.Opd.get, GS.getAll, GS.isiD, GS.isFnD, GS.tyD, GS.truD, GS.cmpD, GS.binD, GS.putV, GS.putS, GS.frz, GS.frzL, GS.isIo, GS.biD, GS.D.len, GS.argsOf, GS.frzA, GS.getV, GS.lentOf, GS.outTo, GS.flatR, GS.ownAt, GS.setOb, GS.isOwn, GS.wipeC, GS.wipeS, GS.backS, GS.tgIn, GS.noX, GS.itemsD, GS.Ob.toD, GS.isNonD, GS.ltD, k__law_bent, e1, e2, hway, stl]
  · obtain ⟨s1, d3, e3, w3, h3⟩ := r_sign k d2 (b + 1 + 1) h2 (by omega)
    obtain ⟨s2, d4, e4, w4, h4⟩ := r_sign k d3 (b + 1 + 1 + 1) h3 (by omega)
    have cl : ∀ lo hi, (L2.cutS w lo hi).length ≤ n := fun lo hi => (hw.cut).len
    have fin : ∀ {x : Str}, run prog (k + 4) "_law_bent" [.io d.ob, .d (.str w)] = .ok (.d (.str x)) (some d4.ob) → Wd (n + 1 + n) x → ∃ (x : Str) (d' : Dr), run prog (k + 4) "_law_bent" [.io d.ob, .d (.str w)] = .ok (.d (.str x)) (some d'.ob) ∧ Wd (n + 1 + n) x ∧ d'.Ok (b + 4) := fun {x} e wx =>
      ⟨x, d4, e, wx, h4.ne, h4.sz, h4.a0, by have := h4.a1; omega, h4.l0, h4.u0, by have := h4.u1; omega⟩
    have l3 := w3.len
    have l4 := w4.len
    rcases three v0 (by omega) with rfl | rfl | rfl
    · have c1 := cl none (some at_)
      have c2 := cl (some at_) none
      have p1 : (L2.cutS w none (some at_)).length + s1.length ≤ 16777216 := by omega
      have p2 : (L2.cutS w none (some at_)).length + s1.length + (L2.cutS w (some at_) none).length ≤ 16777216 := by omega
      refine fin ?_ (((hw.cut (lo := none) (hi := some at_)).add w3).add (hw.cut (lo := some at_) (hi := none)))
      rw [run_at fs__law_bent]
      simp [GS.ioFits, GS.startS, GS.slOf, List.range, List.range.loop, GS.exB, GS.exS, GS.ev, GS.evs, GS.evT, GS.evB, GS.evI, GS.bind_ok, GS.opt_some, GS.retV, GS.endF, GS.outOf, GS.RV.opd, GS.Opd.get, GS.getAll, GS.isiD, GS.isFnD, GS.tyD, GS.truD, GS.cmpD, GS.binD, GS.putV, GS.putS, GS.frz, GS.frzL, GS.isIo, GS.biD, GS.D.len, GS.argsOf, GS.frzA, GS.getV, GS.lentOf, GS.outTo, GS.flatR, GS.ownAt, GS.setOb, GS.isOwn, GS.wipeC, GS.wipeS, GS.backS, GS.tgIn, GS.noX, GS.itemsD, GS.Ob.toD, GS.isNonD, GS.ltD, k__law_bent, e1, e2, e3, e4, stl, idxD, L2.atI, L2.ixN, slcD, partD, hsl, b2iD, Str.length_append, p1, p2]
    · have c1 := cl none (some at_)
      have c2 := cl (some (at_ + 1)) none
      have p1 : (L2.cutS w none (some at_)).length ≤ 16777216 := by omega
      have p2 : (L2.cutS w none (some at_)).length + (L2.cutS w (some (at_ + 1)) none).length ≤ 16777216 := by omega
      have z : (Str.ofString "").length = 0 := by decide
      refine fin ?_ (((hw.cut (lo := none) (hi := some at_)).add (⟨by decide +kernel, by decide +kernel⟩ : Wd 1 (Str.ofString ""))).add (hw.cut (lo := some (at_ + 1)) (hi := none)))
      rw [run_at fs__law_bent]
      simp [GS.ioFits, GS.startS, GS.slOf, List.range, List.range.loop, GS.exB, GS.exS, GS.ev, GS.evs, GS.evT, GS.evB, GS.evI, GS.bind_ok, GS.opt_some, GS.retV, GS.endF, GS.outOf, GS.RV.opd, GS.Opd.get, GS.getAll, GS.isiD, GS.isFnD, GS.tyD, GS.truD, GS.cmpD, GS.binD, GS.putV, GS.putS, GS.frz, GS.frzL, GS.isIo, GS.biD, GS.D.len, GS.argsOf, GS.frzA, GS.getV, GS.lentOf, GS.outTo, GS.flatR, GS.ownAt, GS.setOb, GS.isOwn, GS.wipeC, GS.wipeS, GS.backS, GS.tgIn, GS.noX, GS.itemsD, GS.Ob.toD, GS.isNonD, GS.ltD, k__law_bent, e1, e2, e3, e4, stl, idxD, L2.atI, L2.ixN, slcD, partD, hsl, b2iD, Str.length_append, p1, p2, z]
    · have c1 := cl none (some at_)
      have c2 := cl (some (at_ + 1)) none
      have p1 : (L2.cutS w none (some at_)).length + s2.length ≤ 16777216 := by omega
      have p2 : (L2.cutS w none (some at_)).length + s2.length + (L2.cutS w (some (at_ + 1)) none).length ≤ 16777216 := by omega
      refine fin ?_ (((hw.cut (lo := none) (hi := some at_)).add w4).add (hw.cut (lo := some (at_ + 1)) (hi := none)))
      rw [run_at fs__law_bent]
      simp [GS.ioFits, GS.startS, GS.slOf, List.range, List.range.loop, GS.exB, GS.exS, GS.ev, GS.evs, GS.evT, GS.evB, GS.evI, GS.bind_ok, GS.opt_some, GS.retV, GS.endF, GS.outOf, GS.RV.opd, GS.Opd.get, GS.getAll, GS.isiD, GS.isFnD, GS.tyD, GS.truD, GS.cmpD, GS.binD, GS.putV, GS.putS, GS.frz, GS.frzL, GS.isIo, GS.biD, GS.D.len, GS.argsOf, GS.frzA, GS.getV, GS.lentOf, GS.outTo, GS.flatR, GS.ownAt, GS.setOb, GS.isOwn, GS.wipeC, GS.wipeS, GS.backS, GS.tgIn, GS.noX, GS.itemsD, GS.Ob.toD, GS.isNonD, GS.ltD, k__law_bent, e1, e2, e3, e4, stl, idxD, L2.atI, L2.ixN, slcD, partD, hsl, b2iD, Str.length_append, p1, p2]
end K01

namespace K01
open PySem GS
theorem ev_val {O : Ora} {i : Nat} {s : Ev} {x : D} (h : s[i]? = some (.val x)) : ev O (.var i) s = .ok (.d x) s := by
  show (match s[i]? with
    | some (.val d) => Rs.ok (RV.d d) s
    | some (.own _) => .ok (.sl i) s
    | some (.io _) => .ok (.sl i) s
    | _ => .stuck) = _
  rw [h]
theorem wipe_one {i : Nat} {s : Ev} (h : s[i]? = some .emp) : wipeC [i] s = .ok () s := by
  unfold wipeC
  rw [List.any_cons, List.any_nil, h]
  show Rs.ok () (s.set i .emp) = _
  have q := set_back (x := .emp) h
  rw [List.set_set] at q
  rw [q]
theorem back_one {i : Nat} {s s' : Ev} (h : s[i]? = some .emp) (h' : s'[i]? = some .emp) : backS s s' [i] = s' := by
  show (s'.set i ((s[i]?).getD .emp)) = s'
  rw [h]
  have q := set_back (x := .emp) h'
  rw [List.set_set] at q
  exact q
theorem set_emp {i : Nat} {s : Ev} {x : Sl} (h : s[i]? = some .emp) : (s.set i x).set i .emp = s := set_back h
/-- a comprehension over a range whose turns draw -/
theorem comp_draw {O : Ora} {i sz : Nat} {e : GS.CE} {S : Dr → Ev} {n : Nat} {d : Dr} {b : Int} (h : d.Ok b) (hn : n ≤ 1000)
    (slot : ∀ d, (S d)[i]? = some .emp) (size : ∀ d, (S d)[sz]? = some (.val (.int (n : Int))))
    (turn : ∀ (d : Dr) (b : Int) (x : D), d.Ok b → b < 2 ^ 38 → ∃ (y : Str) (d' : Dr), ((ev O e ((S d).set i (.val x))).bind frz) = .ok (.str y) ((S d').set i (.val x)) ∧ Wd 1 y ∧ d'.Ok (b + 1)) (hb : b + 1000 < 2 ^ 38) :
    ∃ (ys : List Str) (d' : Dr), ev O (.comp [i] (.nm i) (.rng1 (.var sz)) .nil e) (S d) = .ok (.own (.lst (ys.map .str))) (S d') ∧ ys.length = n ∧ (∀ y ∈ ys, Wd 1 y) ∧ d'.Ok (b + n) := by
  have hsl : sizeLine = 16777216 := sizeLine_eq
  have e1 : evI O (.rng1 (.var sz)) (S d) = .ok ((List.range n).map fun (k : Nat) => PyData.int (k : Int)) (S d) := by
    show ((ev O (.var sz) (S d)).bind fun x s => match x.opd.get s with
      | some (.int j) => if -(2 ^ 62) ≤ j && j < 2 ^ 62 then Rs.ok ((List.range j.toNat).map fun (k : Nat) => PyData.int (k : Int)) s else .stuck
      | _ => .stuck) = _
    rw [ev_val (size d), bind_ok]
    show (if (decide (-(2 ^ 62) ≤ (n : Int)) && decide ((n : Int) < 2 ^ 62)) = true then Rs.ok ((List.range (n : Int).toNat).map fun (k : Nat) => PyData.int (k : Int)) (S d) else .stuck) = _
    rw [if_pos (by rw [Bool.and_eq_true, decide_eq_true_eq, decide_eq_true_eq]; omega), Int.toNat_natCast]
  obtain ⟨acc, s', e2, ⟨ys, d', rfl, rfl, h', w'⟩, l⟩ := compL_inv (i := i) (tests := fun s => evT O .nil s) (elt := fun s => (ev O e s).bind frz) n
    (fun acc s => ∃ (ys : List Str) (d' : Dr), acc = ys.map PyData.str ∧ s = S d' ∧ d'.Ok (b + ys.length) ∧ ∀ y ∈ ys, Wd 1 y) ((List.range n).map fun (k : Nat) => PyData.int (k : Int)) [] (S d) ⟨[], d, rfl, rfl, by simpa using h, fun _ z => by cases z⟩ (by simp) (by omega) (by
      rintro x hx acc s hlt ⟨ys, d1, rfl, rfl, h1, w⟩
      rw [List.length_map] at hlt
      obtain ⟨y, d2, e, wy, h2⟩ := turn d1 (b + ys.length) x h1 (by omega)
      have hi := (List.getElem?_eq_some_iff.mp (slot d2)).1
      refine ⟨slot d1, .str y, (S d2).set i (.val x), rfl, e, by rw [List.getElem?_set_self hi]; rfl, ys ++ [y], d2, by rw [List.map_append]; rfl, set_emp (slot d2), ?_, ?_⟩
      · rw [List.length_append, List.length_singleton]
        have : b + ((ys.length + 1 : Nat) : Int) = b + ys.length + 1 := by omega
        rw [this]
        exact h2
      · intro z hz
        rcases List.mem_append.mp hz with hz | hz
        · exact w z hz
        · rw [List.mem_singleton.mp hz]; exact wy)
  rw [List.length_map] at l
  refine ⟨ys, d', ?_, l, w', l ▸ h'⟩
  show ((evI O (.rng1 (.var sz)) (S d)).bind fun xs s0 => if !tgIn [i] (.nm i) then Rs.stuck else (wipeC [i] s0).bind fun _ s =>
    noX ((compL [i] (.nm i) (fun s => evT O .nil s) (fun s => (ev O e s).bind frz) xs [] s).bind fun acc s' => .ok (RV.own (.lst acc)) (backS s0 s' [i]))) = _
  have tg : tgIn [i] (.nm i) = true := by simp [tgIn]
  rw [e1, bind_ok, tg, if_neg (by decide), wipe_one (slot d), bind_ok, e2, bind_ok, back_one (slot d) (slot d')]
  rfl
/-- single signs joined -/
theorem join_one : ∀ {ys : List Str}, (∀ y ∈ ys, Wd 1 y) → Wd ys.length (Str.join (Str.ofString "") ys) ∧ (ys.map (·.length)).sum ≤ ys.length
  | [], _ => ⟨⟨by decide +kernel, by decide +kernel⟩, Nat.le_refl _⟩
  | [x], h => ⟨h x List.mem_cons_self, by simpa using (h x List.mem_cons_self).len⟩
  | x :: y :: r, h => by
    obtain ⟨h1, h2⟩ := join_one (ys := y :: r) fun z hz => h z (List.mem_cons_of_mem _ hz)
    have hx := h x List.mem_cons_self
    have e0 : Wd 0 (Str.ofString "") := ⟨by decide +kernel, by decide +kernel⟩
    refine ⟨((hx.add e0).add h1).mono (by simp only [List.length_cons]; omega), ?_⟩
    rw [List.map_cons, List.sum_cons, List.length_cons]
    have := hx.len
    omega
theorem strs_map (ys : List Str) : strsD (ys.map PyData.str) = some ys := by
  induction ys with
  | nil => rfl
  | cons y r ih =>
    show (strsD (r.map PyData.str)).map (y :: ·) = _
    rw [ih]
    rfl
theorem meth_join {ys : List Str} (h : ∀ y ∈ ys, Wd 1 y) (l : ys.length ≤ 1000) : methD "join" (.str (Str.ofString "")) [.list (ys.map .str)] = some (.d (.str (Str.join (Str.ofString "") ys))) := by
  obtain ⟨w, sm⟩ := join_one h
  have hsl : sizeLine = 16777216 := sizeLine_eq
  have e : Txt.join (Str.ofString "") ys = Str.join (Str.ofString "") ys := StrLaws.glued_eq_join _ _
  show ((some (ys.map PyData.str)).bind strsD).bind (fun ys => if (ys.map (·.length)).sum + ys.length * (Str.ofString "").length ≤ 16777216 && decide ((Txt.join (Str.ofString "") ys).length ≤ sizeLine) && PyData.strOk (Txt.join (Str.ofString "") ys) then some (RV.d (.str (Txt.join (Str.ofString "") ys))) else none) = _
  show (strsD (ys.map PyData.str)).bind _ = _
  rw [strs_map]
  show (if _ then _ else _) = _
  have z : (Str.ofString "").length = 0 := by decide +kernel
  rw [e, if_pos]
  simp only [Bool.and_eq_true, decide_eq_true_eq]
  have := w.len
  exact ⟨⟨by rw [z]; omega, by omega⟩, w.ok⟩
end K01

namespace K01
open PySem GS
/-- one turn: a sign drawn of a text -/
theorem turn_sign {k : Nat} {sg : Str} (hs : PyData.strOk sg = true) (h0 : 0 < sg.length) (h1 : sg.length < 1073741824) (d : Dr) (b : Int) (h : d.Ok b) (hb : b < 2 ^ 38) :
    ∃ (v : Int) (c : Nat) (d' : Dr), run prog (k + 2) "_law_next" [.io d.ob, .d (.int (sg.length : Int))] = .ok (.d (.int v)) (some d'.ob) ∧ idxD (.str sg) (.int v) = some (.str ⟨#[c]⟩) ∧ Wd 1 ⟨#[c]⟩ ∧ d'.Ok (b + 1) := by
  obtain ⟨v, d', e, v0, v1, h'⟩ := r_next k d b h (by omega) (sg.length : Int) (by omega) (by omega)
  obtain ⟨c, hc, mc⟩ := idx_str v0 v1
  exact ⟨v, c, d', e, hc, .chr hs mc, h'⟩
theorem x_size (O : Ora) (d d1 d2 : Dr) (sg : Str) (t p : Int) (n : Nat)
  (e1 : O.Φ "_law_next" [.io d.ob, .d (.int 10)] = .ok (.d (.int t)) (some d1.ob))
  (e2 : O.Φ "_law_next" [.io d1.ob, .d (.int 6)] = .ok (.d (.int p)) (some d2.ob))
  (hsz : idxD (.list [.int 1, .int 2, .int 7, .int 8, .int 9, .int t]) (.int p) = some (.int (n : Int))) (hsl : sizeLine = 16777216) :
  ev O (.idx (.lst (.cons (.con (.int (1))) (.cons (.con (.int (2))) (.cons (.con (.int (7))) (.cons (.con (.int (8))) (.cons (.con (.int (9))) (.cons (.call ("_law_next" : Str) (.cons (.var 0) (.cons (.con (.int (10))) .nil)) [.io 0, .pos 1]) .nil))))))) (.call ("_law_next" : Str) (.cons (.var 0) (.cons (.con (.int (6))) .nil)) [.io 0, .pos 1])) [.io d.ob, .val (.str sg), .emp, .emp] = .ok (.d (.int (n : Int))) [.io d2.ob, .val (.str sg), .emp, .emp] := by
  simp [GS.ioFits, GS.startS, GS.slOf, List.range, List.range.loop, GS.exB, GS.exS, GS.ev, GS.evs, GS.evT, GS.evB, GS.evI, GS.bind_ok, GS.opt_some, GS.retV, GS.endF, GS.outOf, GS.RV.opd, GS.Opd.get, GS.getAll, GS.isiD, GS.isFnD, GS.tyD, GS.truD, GS.cmpD, GS.binD, GS.putV, GS.putS, GS.frz, GS.frzL, GS.isIo, GS.biD, GS.D.len, GS.argsOf, GS.frzA, GS.getV, GS.lentOf, GS.outTo, GS.flatR, GS.ownAt, GS.setOb, GS.isOwn, GS.wipeC, GS.wipeS, GS.backS, GS.tgIn, GS.noX, GS.itemsD, GS.Ob.toD, GS.isNonD, GS.ltD, e1, e2, hsz, hsl]
theorem x_join (O : Ora) (S S' : Ev) (q : GS.CE) (ys : List Str) (hq : ev O q S = .ok (.own (.lst (ys.map .str))) S') (hj : methD "join" (.str (Str.ofString "")) [.list (ys.map .str)] = some (.d (.str (Str.join (Str.ofString "") ys)))) :
  ev O (.meth "join" (.con (.str ("" : Str))) (.cons q .nil)) S = .ok (.d (.str (Str.join (Str.ofString "") ys))) S' := by
  simp [GS.ioFits, GS.startS, GS.slOf, List.range, List.range.loop, GS.exB, GS.exS, GS.ev, GS.evs, GS.evT, GS.evB, GS.evI, GS.bind_ok, GS.opt_some, GS.retV, GS.endF, GS.outOf, GS.RV.opd, GS.Opd.get, GS.getAll, GS.isiD, GS.isFnD, GS.tyD, GS.truD, GS.cmpD, GS.binD, GS.putV, GS.putS, GS.frz, GS.frzL, GS.isIo, GS.biD, GS.D.len, GS.argsOf, GS.frzA, GS.getV, GS.lentOf, GS.outTo, GS.flatR, GS.ownAt, GS.setOb, GS.isOwn, GS.wipeC, GS.wipeS, GS.backS, GS.tgIn, GS.noX, GS.itemsD, GS.Ob.toD, GS.isNonD, GS.ltD, hq, hj, mtOf]
theorem x_two (O : Ora) (d d2 d3 : Dr) (sg x : Str) (n : Nat) (A B : GS.CE) (hA : ev O A [.io d.ob, .val (.str sg), .emp, .emp] = .ok (.d (.int (n : Int))) [.io d2.ob, .val (.str sg), .emp, .emp])
  (hB : ev O B [.io d2.ob, .val (.str sg), .val (.int (n : Int)), .emp] = .ok (.d (.str x)) [.io d3.ob, .val (.str sg), .val (.int (n : Int)), .emp]) :
  (if decide (([.io d.ob, .d (.str sg)] : List AV).length = 2) && decide (2 ≤ 4) && ioFits [.io d.ob, .d (.str sg)] (some 0) then endF (some 0) (exB O (.cons (.set 2 A) (.cons (.ret B) .nil)) (startS 4 [.io d.ob, .d (.str sg)])) else .stuck) = .ok (.d (.str x)) (some d3.ob) := by
  simp [GS.ioFits, GS.startS, GS.slOf, List.range, List.range.loop, GS.exB, GS.exS, GS.ev, GS.evs, GS.evT, GS.evB, GS.evI, GS.bind_ok, GS.opt_some, GS.retV, GS.endF, GS.outOf, GS.RV.opd, GS.Opd.get, GS.getAll, GS.isiD, GS.isFnD, GS.tyD, GS.truD, GS.cmpD, GS.binD, GS.putV, GS.putS, GS.frz, GS.frzL, GS.isIo, GS.biD, GS.D.len, GS.argsOf, GS.frzA, GS.getV, GS.lentOf, GS.outTo, GS.flatR, GS.ownAt, GS.setOb, GS.isOwn, GS.wipeC, GS.wipeS, GS.backS, GS.tgIn, GS.noX, GS.itemsD, GS.Ob.toD, GS.isNonD, GS.ltD, hA, hB]
theorem r_letters (k : Nat) (d : Dr) (b : Int) (h : d.Ok b) (hb : b + 2000 < 2 ^ 38) (sg : Str) (hs : PyData.strOk sg = true) (h0 : 0 < sg.length) (h1 : sg.length < 1073741824) :
    ∃ (x : Str) (d' : Dr), run prog (k + 3) "_law_letters" [.io d.ob, .d (.str sg)] = .ok (.d (.str x)) (some d'.ob) ∧ Wd 9 x ∧ d'.Ok (b + 11) := by
  have hsl : sizeLine = 16777216 := sizeLine_eq
  obtain ⟨t, d1, e1, t0, t1, g1⟩ := r_next k d b h (by omega) 10 (by decide) (by decide)
  obtain ⟨p, d2, e2, p0, p1, g2⟩ := r_next k d1 (b + 1) g1 (by omega) 6 (by decide) (by decide)
  obtain ⟨n, hn, hsz⟩ : ∃ n : Nat, n ≤ 9 ∧ idxD (.list [.int 1, .int 2, .int 7, .int 8, .int 9, .int t]) (.int p) = some (.int (n : Int)) := by
    have : p = 0 ∨ p = 1 ∨ p = 2 ∨ p = 3 ∨ p = 4 ∨ p = 5 := by omega
    rcases this with rfl | rfl | rfl | rfl | rfl | rfl
    · exact ⟨1, by omega, rfl⟩
    · exact ⟨2, by omega, rfl⟩
    · exact ⟨7, by omega, rfl⟩
    · exact ⟨8, by omega, rfl⟩
    · exact ⟨9, by omega, rfl⟩
    · refine ⟨t.toNat, by omega, ?_⟩
      rw [Int.toNat_of_nonneg t0]
      rfl
  refine run_ex (fun r => ∃ (x : Str) (d' : Dr), r = .ok (.d (.str x)) (some d'.ob) ∧ Wd 9 x ∧ d'.Ok (b + 11)) fs__law_letters fun O hΦ hG => ?_
  rw [← hΦ] at e1 e2
  obtain ⟨ys, d3, e3, l3, w3, g3⟩ := comp_draw (O := O) (i := 3) (sz := 2) (S := fun d => [.io d.ob, .val (.str sg), .val (.int (n : Int)), .emp])
    (e := .idx (.var 1) (.call ("_law_next" : Str) (.cons (.var 0) (.cons (.bi "len" (.cons (.var 1) .nil)) .nil)) [.io 0, .pos 1])) (n := n) g2 (by omega) (fun _ => rfl) (fun _ => rfl)
    (fun d b x h hb => by
      obtain ⟨v, c, d', e, hc, wc, h'⟩ := turn_sign (k := k) hs h0 h1 d b h hb
      refine ⟨_, d', ?_, wc, h'⟩
      rw [← hΦ] at e
      simp [GS.ioFits, GS.startS, GS.slOf, List.range, List.range.loop, GS.exB, GS.exS, GS.ev, GS.evs, GS.evT, GS.evB, GS.evI, GS.bind_ok, GS.opt_some, GS.retV, GS.endF, GS.outOf, GS.RV.opd, GS.Opd.get, GS.getAll, GS.isiD, GS.isFnD, GS.tyD, GS.truD, GS.cmpD, GS.binD, GS.putV, GS.putS, GS.frz, GS.frzL, GS.isIo, GS.biD, GS.D.len, GS.argsOf, GS.frzA, GS.getV, GS.lentOf, GS.outTo, GS.flatR, GS.ownAt, GS.setOb, GS.isOwn, GS.wipeC, GS.wipeS, GS.backS, GS.tgIn, GS.noX, GS.itemsD, GS.Ob.toD, GS.isNonD, GS.ltD, e, hc]) (by omega)
  have e3' : ev O q__law_letters_0 [.io d2.ob, .val (.str sg), .val (.int (n : Int)), .emp] = _ := e3
  obtain ⟨wj, _⟩ := join_one w3
  refine ⟨_, d3, ?_, wj.mono (by omega), g3.ne, g3.sz, g3.a0, by have := g3.a1; omega, g3.l0, g3.u0, by have := g3.u1; omega⟩
  exact x_two O d d2 d3 sg _ n _ _ (x_size O d d1 d2 sg t p n e1 e2 hsz hsl) (x_join O _ _ _ ys e3' (meth_join w3 (by omega)))
end K01

namespace K01
open PySem GS
/-! ### the two looks at a name -/
def small : Str := "abcdefghijklmnopqrstuvwxyz"
/-- a sign stands in a text, as the evaluator sees it -/
def inT (t : Str) (c : Nat) : Bool := !(Builtin.Str.occurrences t ⟨#[c]⟩ 0 t.length 1).isEmpty
theorem in_chr (t : Str) (c : Nat) : cmpD .In (chr1 c) (.str t) = some (inT t c) := rfl
theorem notin_chr (t : Str) (c : Nat) : cmpD .NotIn (chr1 c) (.str t) = some (!inT t c) := rfl
def nameS (x : Str) : Bool := decide (1 ≤ x.length) && decide (x.length ≤ 8) && x.cps.toList.all (inT small)
def nameD : D → Bool
  | .str x => nameS x
  | _ => false
theorem bools_map (bs : List Bool) : bools (bs.map PyData.bool) = some bs := by
  induction bs with
  | nil => rfl
  | cons b r ih =>
    show (bools (r.map PyData.bool)).map (b :: ·) = _
    rw [ih]
    rfl
theorem all_chars (O : Ora) (hG : O.G "SMALL" = some (.str small)) (x : Str) (l : x.length ≤ 6000) : ev O q_is_name_0 [.val (.str x), .emp] = .ok (.own (.lst ((x.cps.toList.map (inT small)).map .bool))) [.val (.str x), .emp] := by
  have hsl : sizeLine = 16777216 := sizeLine_eq
  have len : x.cps.toList.length = x.length := Array.length_toList
  have c := compL_nm (s := [.val (.str x), .emp]) (i := 1) (tests := fun s => evT O .nil s) (elt := fun s => (ev O (.cmp .In (.var 1) (.glob ("SMALL" : Str))) s).bind frz) (t := fun _ => true) (g := fun y => match y with | .str z => .bool (inT small (z.cps.toList.headD 0)) | _ => .none) rfl (x.cps.toList.map chr1) [] (fun y hy => by
    obtain ⟨c, _, rfl⟩ := List.mem_map.mp hy
    refine ⟨rfl, fun _ => ?_⟩
    show ((ev O (.cmp .In (.var 1) (.glob ("SMALL" : Str))) [.val (.str x), .val (chr1 c)]).bind frz) = _
    show (((ev O (.var 1) [.val (.str x), .val (chr1 c)]).bind fun a s => (ev O (.glob ("SMALL" : Str)) s).bind fun b s => match a.opd.get s, b.opd.get s with
      | some x, some y => Rs.opt ((cmpD .In x y).map fun c => RV.d (.bool c)) s
      | _, _ => .stuck).bind frz) = _
    rw [ev_val (show ([.val (.str x), .val (chr1 c)] : Ev)[1]? = some (.val (chr1 c)) from rfl), bind_ok]
    rw [show ev O (.glob ("SMALL" : Str)) [.val (.str x), .val (chr1 c)] = .ok (.d (.str small)) [.val (.str x), .val (chr1 c)] from by
      show Rs.opt ((O.G "SMALL").map RV.d) _ = _
      rw [hG]
      rfl, bind_ok]
    rfl) (by rw [List.length_map, len, hsl]; simp; omega)
  show ((evI O (.v (.var 0)) [.val (.str x), .emp]).bind fun xs s0 => if !tgIn [1] (.nm 1) then Rs.stuck else (wipeC [1] s0).bind fun _ s =>
    noX ((compL [1] (.nm 1) (fun s => evT O .nil s) (fun s => (ev O (.cmp .In (.var 1) (.glob ("SMALL" : Str))) s).bind frz) xs [] s).bind fun acc s' => .ok (RV.own (.lst acc)) (backS s0 s' [1]))) = _
  rw [show evI O (.v (.var 0)) [.val (.str x), .emp] = .ok (x.cps.toList.map chr1) [.val (.str x), .emp] from rfl, bind_ok, show tgIn [1] (.nm 1) = true from rfl, if_neg (by decide), wipe_one rfl, bind_ok, c, bind_ok, back_one rfl rfl]
  show Rs.ok (RV.own (.lst _)) _ = _
  congr 3
  rw [List.nil_append, List.map_map, List.filter_eq_self.mpr (fun _ _ => rfl), List.map_map]
  rfl
end K01

namespace K01
open PySem GS
theorem plain_chars (cs : List Nat) : plainA (cs.map chr1) = true := by
  induction cs with
  | nil => rfl
  | cons c r ih => exact ih
theorem eq_nil (cs : List Nat) : eqD (.list (cs.map chr1)) (.list []) = some cs.isEmpty := by
  unfold eqD
  have p : plainD (.list (cs.map chr1)) = true := plain_chars cs
  have q : plainD (.list []) = true := rfl
  have e : min (PyData.list (cs.map chr1)).depth (PyData.list []).depth ≤ 64 := Nat.le_trans (Nat.min_le_right _ _) (by decide)
  rw [p, q, decide_eq_true e]
  cases cs <;> rfl
theorem x_name (O : Ora) (hM : O.G "MOST_LETTERS" = some (.int 8)) (x : Str) (b : List Bool) (hq : ev O q_is_name_0 [.val (.str x), .emp] = .ok (.own (.lst (b.map .bool))) [.val (.str x), .emp]) :
    (if decide (([.d (.str x)] : List AV).length = 1) && decide (1 ≤ 2) && ioFits [.d (.str x)] none then endF none (exB O k_is_name (startS 2 [.d (.str x)])) else .stuck) = .ok (.d (.bool (decide (1 ≤ x.length) && decide (x.length ≤ 8) && b.all id))) none := by
  have hb : bools (b.map PyData.bool) = some b := bools_map b
  by_cases h1 : 1 ≤ x.length
  · by_cases h2 : x.length ≤ 8
    · have h1' : (1 : Int) ≤ (x.length : Int) := by omega
      have h2' : (x.length : Int) ≤ 8 := by omega
      simp [GS.ioFits, GS.startS, GS.slOf, List.range, List.range.loop, GS.exB, GS.exS, GS.ev, GS.evs, GS.evT, GS.evB, GS.evI, GS.bind_ok, GS.opt_some, GS.retV, GS.endF, GS.outOf, GS.RV.opd, GS.Opd.get, GS.getAll, GS.isiD, GS.isFnD, GS.tyD, GS.truD, GS.cmpD, GS.binD, GS.putV, GS.putS, GS.frz, GS.frzL, GS.isIo, GS.biD, GS.D.len, GS.argsOf, GS.frzA, GS.getV, GS.lentOf, GS.outTo, GS.flatR, GS.ownAt, GS.setOb, GS.isOwn, GS.wipeC, GS.wipeS, GS.backS, GS.tgIn, GS.noX, GS.itemsD, GS.Ob.toD, GS.isNonD, GS.ltD, k_is_name, hM, hq, hb, lstD, h1, h2, h1', h2']
    · have h1' : (1 : Int) ≤ (x.length : Int) := by omega
      have h2' : ¬ (x.length : Int) ≤ 8 := by omega
      simp [GS.ioFits, GS.startS, GS.slOf, List.range, List.range.loop, GS.exB, GS.exS, GS.ev, GS.evs, GS.evT, GS.evB, GS.evI, GS.bind_ok, GS.opt_some, GS.retV, GS.endF, GS.outOf, GS.RV.opd, GS.Opd.get, GS.getAll, GS.isiD, GS.isFnD, GS.tyD, GS.truD, GS.cmpD, GS.binD, GS.putV, GS.putS, GS.frz, GS.frzL, GS.isIo, GS.biD, GS.D.len, GS.argsOf, GS.frzA, GS.getV, GS.lentOf, GS.outTo, GS.flatR, GS.ownAt, GS.setOb, GS.isOwn, GS.wipeC, GS.wipeS, GS.backS, GS.tgIn, GS.noX, GS.itemsD, GS.Ob.toD, GS.isNonD, GS.ltD, k_is_name, hM, h1, h2, h1', h2']
  · have h1' : ¬ (1 : Int) ≤ (x.length : Int) := by omega
    simp [GS.ioFits, GS.startS, GS.slOf, List.range, List.range.loop, GS.exB, GS.exS, GS.ev, GS.evs, GS.evT, GS.evB, GS.evI, GS.bind_ok, GS.opt_some, GS.retV, GS.endF, GS.outOf, GS.RV.opd, GS.Opd.get, GS.getAll, GS.isiD, GS.isFnD, GS.tyD, GS.truD, GS.cmpD, GS.binD, GS.putV, GS.putS, GS.frz, GS.frzL, GS.isIo, GS.biD, GS.D.len, GS.argsOf, GS.frzA, GS.getV, GS.lentOf, GS.outTo, GS.flatR, GS.ownAt, GS.setOb, GS.isOwn, GS.wipeC, GS.wipeS, GS.backS, GS.tgIn, GS.noX, GS.itemsD, GS.Ob.toD, GS.isNonD, GS.ltD, k_is_name, hM, h1, h1']
theorem x_name_other (O : Ora) (x : D) (hx : isFnD x = false) (hs : ∀ y, x ≠ .str y) :
    (if decide (([.d x] : List AV).length = 1) && decide (1 ≤ 2) && ioFits [.d x] none then endF none (exB O k_is_name (startS 2 [.d x])) else .stuck) = .ok (.d (.bool false)) none := by
  cases x with
  | str y => exact absurd rfl (hs y)
  | dict kvs =>
    have hx' : isFnB kvs = false := hx
    simp [GS.ioFits, GS.startS, GS.slOf, List.range, List.range.loop, GS.exB, GS.exS, GS.ev, GS.evs, GS.evT, GS.evB, GS.evI, GS.bind_ok, GS.opt_some, GS.retV, GS.endF, GS.outOf, GS.RV.opd, GS.Opd.get, GS.getAll, GS.isiD, GS.isFnD, GS.tyD, GS.truD, GS.cmpD, GS.binD, GS.putV, GS.putS, GS.frz, GS.frzL, GS.isIo, GS.biD, GS.D.len, GS.argsOf, GS.frzA, GS.getV, GS.lentOf, GS.outTo, GS.flatR, GS.ownAt, GS.setOb, GS.isOwn, GS.wipeC, GS.wipeS, GS.backS, GS.tgIn, GS.noX, GS.itemsD, GS.Ob.toD, GS.isNonD, GS.ltD, k_is_name, hx']
  | _ => simp [GS.ioFits, GS.startS, GS.slOf, List.range, List.range.loop, GS.exB, GS.exS, GS.ev, GS.evs, GS.evT, GS.evB, GS.evI, GS.bind_ok, GS.opt_some, GS.retV, GS.endF, GS.outOf, GS.RV.opd, GS.Opd.get, GS.getAll, GS.isiD, GS.isFnD, GS.tyD, GS.truD, GS.cmpD, GS.binD, GS.putV, GS.putS, GS.frz, GS.frzL, GS.isIo, GS.biD, GS.D.len, GS.argsOf, GS.frzA, GS.getV, GS.lentOf, GS.outTo, GS.flatR, GS.ownAt, GS.setOb, GS.isOwn, GS.wipeC, GS.wipeS, GS.backS, GS.tgIn, GS.noX, GS.itemsD, GS.Ob.toD, GS.isNonD, GS.ltD, k_is_name]
theorem r_is_name (k : Nat) (x : D) (hx : isFnD x = false) (hl : ∀ y, x = .str y → y.length ≤ 6000) : run prog (k + 1) "is_name" [.d x] = .ok (.d (.bool (nameD x))) none := by
  refine run_ex (fun r => r = .ok (.d (.bool (nameD x))) none) fs_is_name fun O hΦ hG => ?_
  have g1 : O.G "SMALL" = some (.str small) := by rw [hG]; rfl
  have g2 : O.G "MOST_LETTERS" = some (.int 8) := by rw [hG]; rfl
  by_cases hs : ∃ y, x = .str y
  · obtain ⟨y, rfl⟩ := hs
    have q := x_name O g2 y _ (all_chars O g1 y (hl y rfl))
    rw [List.all_map] at q
    exact q
  · have e : nameD x = false := by cases x <;> first | rfl | exact absurd ⟨_, rfl⟩ hs
    rw [e]
    exact x_name_other O x hx fun y z => hs ⟨y, z⟩
theorem not_chars (O : Ora) (x : Str) (l : x.length ≤ 6000) : ev O q__law_is_name_0 [.val (.str x), .val (.str small), .emp] = .ok (.own (.lst ((x.cps.toList.filter fun c => !inT small c).map chr1))) [.val (.str x), .val (.str small), .emp] := by
  have hsl : sizeLine = 16777216 := sizeLine_eq
  have len : x.cps.toList.length = x.length := Array.length_toList
  have c := compL_nm (s := [.val (.str x), .val (.str small), .emp]) (i := 2) (tests := fun s => evT O (.cons (.cmp .NotIn (.var 2) (.var 1)) .nil) s) (elt := fun s => (ev O (.var 2) s).bind frz) (t := fun y => match y with | .str z => !inT small (z.cps.toList.headD 0) | _ => false) (g := id) rfl (x.cps.toList.map chr1) [] (fun y hy => by
    obtain ⟨c, _, rfl⟩ := List.mem_map.mp hy
    refine ⟨?_, fun _ => rfl⟩
    show (((ev O (.var 2) [.val (.str x), .val (.str small), .val (chr1 c)]).bind fun a s => (ev O (.var 1) s).bind fun b s => match a.opd.get s, b.opd.get s with
      | some x, some y => Rs.opt ((cmpD .NotIn x y).map fun c => RV.d (.bool c)) s
      | _, _ => .stuck).bind fun x s => match (x.opd.get s).bind truD with
      | some true => evT O .nil s
      | some false => .ok false s
      | none => .stuck) = _
    rw [ev_val (show ([.val (.str x), .val (.str small), .val (chr1 c)] : Ev)[2]? = some (.val (chr1 c)) from rfl), bind_ok]
    rw [ev_val (show ([.val (.str x), .val (.str small), .val (chr1 c)] : Ev)[1]? = some (.val (.str small)) from rfl), bind_ok]
    show ((Rs.opt ((cmpD .NotIn (chr1 c) (.str small)).map fun c => RV.d (.bool c)) [.val (.str x), .val (.str small), .val (chr1 c)]).bind _) = _
    rw [notin_chr]
    show (match truD (.bool (!inT small c)) with
      | some true => Rs.ok true [Sl.val (.str x), .val (.str small), .val (chr1 c)]
      | some false => .ok false [Sl.val (.str x), .val (.str small), .val (chr1 c)]
      | none => .stuck) = Rs.ok (!inT small c) [Sl.val (.str x), .val (.str small), .val (chr1 c)]
    cases inT small c <;> rfl) (by rw [List.length_map, len, hsl]; simp; omega)
  show ((evI O (.v (.var 0)) [.val (.str x), .val (.str small), .emp]).bind fun xs s0 => if !tgIn [2] (.nm 2) then Rs.stuck else (wipeC [2] s0).bind fun _ s =>
    noX ((compL [2] (.nm 2) (fun s => evT O (.cons (.cmp .NotIn (.var 2) (.var 1)) .nil) s) (fun s => (ev O (.var 2) s).bind frz) xs [] s).bind fun acc s' => .ok (RV.own (.lst acc)) (backS s0 s' [2]))) = _
  rw [show evI O (.v (.var 0)) [.val (.str x), .val (.str small), .emp] = .ok (x.cps.toList.map chr1) [.val (.str x), .val (.str small), .emp] from rfl, bind_ok, show tgIn [2] (.nm 2) = true from rfl, if_neg (by decide), wipe_one rfl, bind_ok, c, bind_ok, back_one rfl rfl]
  show Rs.ok (RV.own (.lst _)) _ = _
  congr 3
  rw [List.nil_append, List.map_id, List.filter_map]
  rfl
end K01

namespace K01
open PySem GS
theorem x_lname (O : Ora) (x : Str) (cs : List Nat) (hq : ev O q__law_is_name_0 [.val (.str x), .val (.str small), .emp] = .ok (.own (.lst (cs.map chr1))) [.val (.str x), .val (.str small), .emp]) :
    (if decide (([.d (.str x)] : List AV).length = 1) && decide (1 ≤ 3) && ioFits [.d (.str x)] none then endF none (exB O k__law_is_name (startS 3 [.d (.str x)])) else .stuck) = .ok (.d (.bool (decide (1 ≤ x.length) && decide (x.length ≤ 8) && cs.isEmpty))) none := by
  have hk : k__law_is_name = (.cons (.set 1 (.con (.str small))) (.cons (.ret (.and (.isi (.var 0) "str") (.and (.chain .Lt .Lt (.con (.int (0))) (.bi "len" (.cons (.var 0) .nil)) (.con (.int (9)))) (.cmp .Eq q__law_is_name_0 (.lst .nil))))) .nil)) := rfl
  have he := eq_nil cs
  have hsl : (0 : Nat) ≤ sizeLine := Nat.zero_le _
  by_cases h1 : 1 ≤ x.length
  · have h3 : 0 < x.length := h1
    by_cases h2 : x.length ≤ 8
    · have h1' : (0 : Int) < (x.length : Int) := by omega
      have h2' : (x.length : Int) < 9 := by omega
      simp [GS.ioFits, GS.startS, GS.slOf, List.range, List.range.loop, GS.exB, GS.exS, GS.ev, GS.evs, GS.evT, GS.evB, GS.evI, GS.bind_ok, GS.opt_some, GS.retV, GS.endF, GS.outOf, GS.RV.opd, GS.Opd.get, GS.getAll, GS.isiD, GS.isFnD, GS.tyD, GS.truD, GS.cmpD, GS.binD, GS.putV, GS.putS, GS.frz, GS.frzL, GS.isIo, GS.biD, GS.D.len, GS.argsOf, GS.frzA, GS.getV, GS.lentOf, GS.outTo, GS.flatR, GS.ownAt, GS.setOb, GS.isOwn, GS.wipeC, GS.wipeS, GS.backS, GS.tgIn, GS.noX, GS.itemsD, GS.Ob.toD, GS.isNonD, GS.ltD, hk, hq, he, h1, h2, h1', h2', h3]
    · have h1' : (0 : Int) < (x.length : Int) := by omega
      have h2' : ¬ (x.length : Int) < 9 := by omega
      simp [GS.ioFits, GS.startS, GS.slOf, List.range, List.range.loop, GS.exB, GS.exS, GS.ev, GS.evs, GS.evT, GS.evB, GS.evI, GS.bind_ok, GS.opt_some, GS.retV, GS.endF, GS.outOf, GS.RV.opd, GS.Opd.get, GS.getAll, GS.isiD, GS.isFnD, GS.tyD, GS.truD, GS.cmpD, GS.binD, GS.putV, GS.putS, GS.frz, GS.frzL, GS.isIo, GS.biD, GS.D.len, GS.argsOf, GS.frzA, GS.getV, GS.lentOf, GS.outTo, GS.flatR, GS.ownAt, GS.setOb, GS.isOwn, GS.wipeC, GS.wipeS, GS.backS, GS.tgIn, GS.noX, GS.itemsD, GS.Ob.toD, GS.isNonD, GS.ltD, hk, h1, h2, h1', h2', h3]
  · have h1' : ¬ (0 : Int) < (x.length : Int) := by omega
    have h3 : ¬ 0 < x.length := h1
    simp [GS.ioFits, GS.startS, GS.slOf, List.range, List.range.loop, GS.exB, GS.exS, GS.ev, GS.evs, GS.evT, GS.evB, GS.evI, GS.bind_ok, GS.opt_some, GS.retV, GS.endF, GS.outOf, GS.RV.opd, GS.Opd.get, GS.getAll, GS.isiD, GS.isFnD, GS.tyD, GS.truD, GS.cmpD, GS.binD, GS.putV, GS.putS, GS.frz, GS.frzL, GS.isIo, GS.biD, GS.D.len, GS.argsOf, GS.frzA, GS.getV, GS.lentOf, GS.outTo, GS.flatR, GS.ownAt, GS.setOb, GS.isOwn, GS.wipeC, GS.wipeS, GS.backS, GS.tgIn, GS.noX, GS.itemsD, GS.Ob.toD, GS.isNonD, GS.ltD, hk, h1, h1', h3]
theorem x_lname_other (O : Ora) (x : D) (hx : isFnD x = false) (hs : ∀ y, x ≠ .str y) :
    (if decide (([.d x] : List AV).length = 1) && decide (1 ≤ 3) && ioFits [.d x] none then endF none (exB O k__law_is_name (startS 3 [.d x])) else .stuck) = .ok (.d (.bool false)) none := by
  cases x with
  | str y => exact absurd rfl (hs y)
  | dict kvs =>
    have hx' : isFnB kvs = false := hx
    simp [GS.ioFits, GS.startS, GS.slOf, List.range, List.range.loop, GS.exB, GS.exS, GS.ev, GS.evs, GS.evT, GS.evB, GS.evI, GS.bind_ok, GS.opt_some, GS.retV, GS.endF, GS.outOf, GS.RV.opd, GS.Opd.get, GS.getAll, GS.isiD, GS.isFnD, GS.tyD, GS.truD, GS.cmpD, GS.binD, GS.putV, GS.putS, GS.frz, GS.frzL, GS.isIo, GS.biD, GS.D.len, GS.argsOf, GS.frzA, GS.getV, GS.lentOf, GS.outTo, GS.flatR, GS.ownAt, GS.setOb, GS.isOwn, GS.wipeC, GS.wipeS, GS.backS, GS.tgIn, GS.noX, GS.itemsD, GS.Ob.toD, GS.isNonD, GS.ltD, k__law_is_name, hx']
  | _ => simp [GS.ioFits, GS.startS, GS.slOf, List.range, List.range.loop, GS.exB, GS.exS, GS.ev, GS.evs, GS.evT, GS.evB, GS.evI, GS.bind_ok, GS.opt_some, GS.retV, GS.endF, GS.outOf, GS.RV.opd, GS.Opd.get, GS.getAll, GS.isiD, GS.isFnD, GS.tyD, GS.truD, GS.cmpD, GS.binD, GS.putV, GS.putS, GS.frz, GS.frzL, GS.isIo, GS.biD, GS.D.len, GS.argsOf, GS.frzA, GS.getV, GS.lentOf, GS.outTo, GS.flatR, GS.ownAt, GS.setOb, GS.isOwn, GS.wipeC, GS.wipeS, GS.backS, GS.tgIn, GS.noX, GS.itemsD, GS.Ob.toD, GS.isNonD, GS.ltD, k__law_is_name]
theorem none_out (p : Nat → Bool) (cs : List Nat) : (cs.filter fun c => !p c).isEmpty = cs.all p := by
  induction cs with
  | nil => rfl
  | cons c r ih =>
    rw [List.filter_cons, List.all_cons]
    cases p c with
    | true => simpa using ih
    | false => rfl
theorem r_law_is_name (k : Nat) (x : D) (hx : isFnD x = false) (hl : ∀ y, x = .str y → y.length ≤ 6000) : run prog (k + 1) "_law_is_name" [.d x] = .ok (.d (.bool (nameD x))) none := by
  refine run_ex (fun r => r = .ok (.d (.bool (nameD x))) none) fs__law_is_name fun O hΦ hG => ?_
  by_cases hs : ∃ y, x = .str y
  · obtain ⟨y, rfl⟩ := hs
    have q := x_lname O y _ (not_chars O y (hl y rfl))
    rw [none_out] at q
    exact q
  · have e : nameD x = false := by cases x <;> first | rfl | exact absurd ⟨_, rfl⟩ hs
    rw [e]
    exact x_lname_other O x hx fun y z => hs ⟨y, z⟩
/-! ### the two looks at the same number -/
def sameD (f d : D) : Bool := match d with
  | .none => isNonD f
  | .int j => match f with | .int i => decide (i = j) | _ => false
  | _ => false
theorem r_same_none (k : Nat) : run prog (k + 1) "_law_same" [.d .none, .d .none] = .ok (.d (.bool true)) none := by
  refine run_ex (fun r => r = .ok (.d (.bool true)) none) fs__law_same fun O hΦ hG => ?_
  simp [GS.ioFits, GS.startS, GS.slOf, List.range, List.range.loop, GS.exB, GS.exS, GS.ev, GS.evs, GS.evT, GS.evB, GS.evI, GS.bind_ok, GS.opt_some, GS.retV, GS.endF, GS.outOf, GS.RV.opd, GS.Opd.get, GS.getAll, GS.isiD, GS.isFnD, GS.tyD, GS.truD, GS.cmpD, GS.binD, GS.putV, GS.putS, GS.frz, GS.frzL, GS.isIo, GS.biD, GS.D.len, GS.argsOf, GS.frzA, GS.getV, GS.lentOf, GS.outTo, GS.flatR, GS.ownAt, GS.setOb, GS.isOwn, GS.wipeC, GS.wipeS, GS.backS, GS.tgIn, GS.noX, GS.itemsD, GS.Ob.toD, GS.isNonD, GS.ltD, k__law_same]
theorem eq_int (i : Int) : eqD (.int i) (.int i) = some true := by
  unfold eqD
  have e : PyData.eqv (.int i) (.int i) = true := by
    show (i == i) = true
    exact beq_self_eq_true i
  rw [e]
  rfl
theorem r_same_int (k : Nat) (i : Int) : run prog (k + 1) "_law_same" [.d (.int i), .d (.int i)] = .ok (.d (.bool true)) none := by
  refine run_ex (fun r => r = .ok (.d (.bool true)) none) fs__law_same fun O hΦ hG => ?_
  have e := eq_int i
  simp [GS.ioFits, GS.startS, GS.slOf, List.range, List.range.loop, GS.exB, GS.exS, GS.ev, GS.evs, GS.evT, GS.evB, GS.evI, GS.bind_ok, GS.opt_some, GS.retV, GS.endF, GS.outOf, GS.RV.opd, GS.Opd.get, GS.getAll, GS.isiD, GS.isFnD, GS.tyD, GS.truD, GS.cmpD, GS.binD, GS.putV, GS.putS, GS.frz, GS.frzL, GS.isIo, GS.biD, GS.D.len, GS.argsOf, GS.frzA, GS.getV, GS.lentOf, GS.outTo, GS.flatR, GS.ownAt, GS.setOb, GS.isOwn, GS.wipeC, GS.wipeS, GS.backS, GS.tgIn, GS.noX, GS.itemsD, GS.Ob.toD, GS.isNonD, GS.ltD, k__law_same, e]
/-! ### the begin -/
theorem begin_at (k : Nat) (ns : List Int) (hl : ns.length ≤ 63) : run prog (k + 1) "_law_begin" [.d (.list (ns.map .int))] = .ok (.own (Dr.ob ⟨ns ++ [0], 0, 0, 0⟩)) none := by
  refine run_ex (fun r => r = .ok (.own (Dr.ob ⟨ns ++ [0], 0, 0, 0⟩)) none) fs__law_begin fun O hΦ hG => ?_
  have hsl : sizeLine = 16777216 := sizeLine_eq
  have l1 : (ns.map PyData.int).length + 1 ≤ 16777216 := by rw [List.length_map]; omega
  have hd : ∀ l : List D, mergeD [] (([.str "cells", .str "at", .str "left", .str "used"] : List D).zip [.list l, .int 0, .int 0, .int 0]) = [(.str "cells", .list l), (.str "at", .int 0), (.str "left", .int 0), (.str "used", .int 0)] := fun _ => rfl
  have hk : ([.str "cells", .str "at", .str "left", .str "used"] : List D).all keyOk = true := rfl
  have ho : Dr.ob ⟨ns ++ [0], 0, 0, 0⟩ = .dic [(.str "cells", .list (ns.map PyData.int ++ [.int 0])), (.str "at", .int 0), (.str "left", .int 0), (.str "used", .int 0)] := by
    unfold Dr.ob Dr.kv
    rw [List.map_append]
    rfl
  rw [ho, ← hd]
  rw [List.length_map] at l1
  simp [GS.ioFits, GS.startS, GS.slOf, List.range, List.range.loop, GS.exB, GS.exS, GS.ev, GS.evs, GS.evT, GS.evB, GS.evI, GS.bind_ok, GS.opt_some, GS.retV, GS.endF, GS.outOf, GS.RV.opd, GS.Opd.get, GS.getAll, GS.isiD, GS.isFnD, GS.tyD, GS.truD, GS.cmpD, GS.binD, GS.putV, GS.putS, GS.frz, GS.frzL, GS.isIo, GS.biD, GS.D.len, GS.argsOf, GS.frzA, GS.getV, GS.lentOf, GS.outTo, GS.flatR, GS.ownAt, GS.setOb, GS.isOwn, GS.wipeC, GS.wipeS, GS.backS, GS.tgIn, GS.noX, GS.itemsD, GS.Ob.toD, GS.isNonD, GS.ltD, k__law_begin, hsl, l1, keyOk]
end K01

namespace K01
open PySem GS
def digs : Str := "0123456789"
theorem digs_cps : digs.cps.toList = [48, 49, 50, 51, 52, 53, 54, 55, 56, 57] := by decide +kernel
theorem in_digs (c : Nat) : inT digs c = decide (48 ≤ c ∧ c ≤ 57) := by
  unfold inT
  rw [StrLaws.found_one, digs_cps]
  simp only [List.mem_cons, List.not_mem_nil, or_false]
  congr 1
  apply propext
  omega
def negW (w : Str) : Bool := w.cps.toList.head? == some 45
def figs (w : Str) : Str := if negW w then L2.cutS w (some 1) none else w
theorem str_of (w : Str) : w = ⟨w.cps.toList.toArray⟩ := by
  apply Str.ext'
  exact (Array.toArray_toList (xs := w.cps)).symm
theorem dash_cps : (Str.ofString "-").cps = #[45] := by decide +kernel
theorem starts_neg (w : Str) : Txt.startswith w (Str.ofString "-") = negW w := by
  have hd : (Str.ofString "-").length = 1 := by decide +kernel
  have e : Txt.startswith w (Str.ofString "-") = (decide (1 ≤ w.length) && (w.cps.extract 0 1 == #[45])) := by
    show (decide (0 + (Str.ofString "-").length ≤ w.length) && (w.cps.extract 0 (0 + (Str.ofString "-").length) == (Str.ofString "-").cps)) = _
    rw [hd, dash_cps]
  rw [e]
  unfold negW
  obtain ⟨⟨l⟩⟩ := w
  cases l with
  | nil => rfl
  | cons c r =>
    show (decide (1 ≤ (c :: r).toArray.size) && ((c :: r).toArray.extract 0 1 == #[45])) = ((c :: r).head? == some 45)
    have e1 : (c :: r).toArray.extract 0 1 = #[c] := by simp
    rw [e1, decide_eq_true (by simp)]
    simp
theorem cut_tail (w : Str) : (L2.cutS w (some 1) none).cps.toList = w.cps.toList.drop 1 := by
  have len : w.cps.toList.length = w.length := Array.length_toList
  show ((w.cps.toList.drop (HT.sIx w.length 0 (some 1))).take (HT.sIx w.length w.length none - HT.sIx w.length 0 (some 1))).toArray.toList = _
  rw [List.toList_toArray, show HT.sIx w.length 0 (some 1) = min 1 w.length from HT.sIx_nat _ _ 1, HT.sIx_none]
  rw [← len]
  cases w.cps.toList with
  | nil => rfl
  | cons c r =>
    have : min 1 (c :: r).length = 1 := by simp
    rw [this]
    simp
theorem cut_head (w : Str) : (L2.cutS w none (some 1)).cps.toList = w.cps.toList.take 1 := by
  have len : w.cps.toList.length = w.length := Array.length_toList
  show ((w.cps.toList.drop (HT.sIx w.length 0 none)).take (HT.sIx w.length w.length (some 1) - HT.sIx w.length 0 none)).toArray.toList = _
  rw [List.toList_toArray, show HT.sIx w.length w.length (some 1) = min 1 w.length from HT.sIx_nat _ _ 1, HT.sIx_none]
  rw [← len]
  cases w.cps.toList with
  | nil => rfl
  | cons c r => simp
theorem str_beq (x y : Str) : eqD (.str x) (.str y) = some (decide (x.cps.toList = y.cps.toList)) := by
  have e : PyData.eqv (.str x) (.str y) = decide (x.cps.toList = y.cps.toList) := by
    show (x == y) = _
    rw [Bool.eq_iff_iff, beq_iff_eq, decide_eq_true_eq]
    exact ⟨fun h => by rw [h], fun h => Str.ext' (Array.ext' h)⟩
  show (if plainD (.str x) && plainD (.str y) && decide (min (PyData.str x).depth (PyData.str y).depth ≤ 64) then some (PyData.eqv (.str x) (.str y)) else none) = _
  rw [e]
  rfl
theorem eq_head (w : Str) : eqD (.str (L2.cutS w none (some 1))) (.str (Str.ofString "-")) = some (negW w) := by
  rw [str_beq, cut_head, dash_cps]
  unfold negW
  congr 1
  cases w.cps.toList with
  | nil => rfl
  | cons c r => by_cases h : c = 45 <;> simp [h]
/-- the sign's place among the figures -/
theorem idx_of {c j : Nat} (h : Builtin.Str.occurrences digs ⟨#[c]⟩ 0 digs.length 1 = [j]) : methD "index" (.str digs) [chr1 c] = some (.d (.int (j : Int))) := by
  show (match Builtin.Str.occurrences digs ⟨#[c]⟩ 0 digs.length 1 with
    | i :: _ => some (RV.d (.int (i : Nat)))
    | [] => none) = _
  rw [h]
theorem index_digit {c : Nat} (h0 : 48 ≤ c) (h1 : c ≤ 57) : methD "index" (.str digs) [chr1 c] = some (.d (.int ((c - 48 : Nat) : Int))) := by
  have : c = 48 ∨ c = 49 ∨ c = 50 ∨ c = 51 ∨ c = 52 ∨ c = 53 ∨ c = 54 ∨ c = 55 ∨ c = 56 ∨ c = 57 := by omega
  rcases this with rfl | rfl | rfl | rfl | rfl | rfl | rfl | rfl | rfl | rfl <;> exact idx_of (by decide +kernel)
end K01

namespace K01
open PySem GS
theorem get_set {s : Ev} {i j : Nat} {x : Sl} (h : i ≠ j) : (s.set i x)[j]? = s[j]? := List.getElem?_set_ne h
/-- [sign in TEXT for sign in f] -/
theorem chars_in {O : Ora} {s : Ev} {i j : Nat} {g f t : Str} (hG : O.G g = some (.str t)) (hi : s[i]? = some .emp) (hj : s[j]? = some (.val (.str f))) (l : f.length ≤ 6000) :
    ev O (.comp [i] (.nm i) (.v (.var j)) .nil (.cmp .In (.var i) (.glob g))) s = .ok (.own (.lst ((f.cps.toList.map (inT t)).map .bool))) s := by
  have hsl : sizeLine = 16777216 := sizeLine_eq
  have len : f.cps.toList.length = f.length := Array.length_toList
  have lt := (List.getElem?_eq_some_iff.mp hi).1
  have c := compL_nm (s := s) (i := i) (tests := fun s => evT O .nil s) (elt := fun s => (ev O (.cmp .In (.var i) (.glob g)) s).bind frz) (t := fun _ => true) (g := fun y => match y with | .str z => .bool (inT t (z.cps.toList.headD 0)) | _ => .none) hi (f.cps.toList.map chr1) [] (fun y hy => by
    obtain ⟨c, _, rfl⟩ := List.mem_map.mp hy
    refine ⟨rfl, fun _ => ?_⟩
    show (((ev O (.var i) (s.set i (.val (chr1 c)))).bind fun a s => (ev O (.glob g) s).bind fun b s => match a.opd.get s, b.opd.get s with
      | some x, some y => Rs.opt ((cmpD .In x y).map fun c => RV.d (.bool c)) s
      | _, _ => .stuck).bind frz) = _
    rw [ev_val (List.getElem?_set_self lt), bind_ok]
    rw [show ev O (.glob g) (s.set i (.val (chr1 c))) = .ok (.d (.str t)) (s.set i (.val (chr1 c))) from by
      show Rs.opt ((O.G g).map RV.d) _ = _
      rw [hG]
      rfl, bind_ok]
    rfl) (by rw [List.length_map, len, hsl]; simp; omega)
  show ((evI O (.v (.var j)) s).bind fun xs s0 => if !tgIn [i] (.nm i) then Rs.stuck else (wipeC [i] s0).bind fun _ s =>
    noX ((compL [i] (.nm i) (fun s => evT O .nil s) (fun s => (ev O (.cmp .In (.var i) (.glob g)) s).bind frz) xs [] s).bind fun acc s' => .ok (RV.own (.lst acc)) (backS s0 s' [i]))) = _
  have e1 : evI O (.v (.var j)) s = .ok (f.cps.toList.map chr1) s := by
    show ((ev O (.var j) s).bind fun x s => (frz x s).bind fun d s => Rs.opt (itemsD d) s) = _
    rw [ev_val hj]
    rfl
  have tg : tgIn [i] (.nm i) = true := by simp [tgIn]
  rw [e1, bind_ok, tg, if_neg (by decide), wipe_one hi, bind_ok, c, bind_ok, back_one hi hi]
  show Rs.ok (RV.own (.lst _)) _ = _
  congr 3
  rw [List.nil_append, List.map_map, List.filter_eq_self.mpr (fun _ _ => rfl), List.map_map]
  rfl
/-- [sign for sign in f if sign not in TEXT] -/
theorem chars_out {O : Ora} {s : Ev} {i j : Nat} {f t : Str} (hi : s[i]? = some .emp) (hj : s[j]? = some (.val (.str f))) (l : f.length ≤ 6000) :
    ev O (.comp [i] (.nm i) (.v (.var j)) (.cons (.cmp .NotIn (.var i) (.con (.str t))) .nil) (.var i)) s = .ok (.own (.lst ((f.cps.toList.filter fun c => !inT t c).map chr1))) s := by
  have hsl : sizeLine = 16777216 := sizeLine_eq
  have len : f.cps.toList.length = f.length := Array.length_toList
  have lt := (List.getElem?_eq_some_iff.mp hi).1
  have c := compL_nm (s := s) (i := i) (tests := fun s => evT O (.cons (.cmp .NotIn (.var i) (.con (.str t))) .nil) s) (elt := fun s => (ev O (.var i) s).bind frz) (t := fun y => match y with | .str z => !inT t (z.cps.toList.headD 0) | _ => false) (g := id) hi (f.cps.toList.map chr1) [] (fun y hy => by
    obtain ⟨c, _, rfl⟩ := List.mem_map.mp hy
    have v : ev O (.var i) (s.set i (.val (chr1 c))) = .ok (.d (chr1 c)) (s.set i (.val (chr1 c))) := ev_val (List.getElem?_set_self lt)
    refine ⟨?_, fun _ => by show ((ev O (.var i) (s.set i (.val (chr1 c)))).bind frz) = _; rw [v]; rfl⟩
    show (((ev O (.var i) (s.set i (.val (chr1 c)))).bind fun a s => (ev O (.con (.str t)) s).bind fun b s => match a.opd.get s, b.opd.get s with
      | some x, some y => Rs.opt ((cmpD .NotIn x y).map fun c => RV.d (.bool c)) s
      | _, _ => .stuck).bind fun x s => match (x.opd.get s).bind truD with
      | some true => evT O .nil s
      | some false => .ok false s
      | none => .stuck) = _
    rw [v, bind_ok]
    show ((Rs.opt ((cmpD .NotIn (chr1 c) (.str t)).map fun c => RV.d (.bool c)) (s.set i (.val (chr1 c)))).bind _) = _
    rw [notin_chr]
    show (match truD (.bool (!inT t c)) with
      | some true => Rs.ok true (s.set i (.val (chr1 c)))
      | some false => .ok false (s.set i (.val (chr1 c)))
      | none => .stuck) = Rs.ok (!inT t c) (s.set i (.val (chr1 c)))
    cases inT t c <;> rfl) (by rw [List.length_map, len, hsl]; simp; omega)
  show ((evI O (.v (.var j)) s).bind fun xs s0 => if !tgIn [i] (.nm i) then Rs.stuck else (wipeC [i] s0).bind fun _ s =>
    noX ((compL [i] (.nm i) (fun s => evT O (.cons (.cmp .NotIn (.var i) (.con (.str t))) .nil) s) (fun s => (ev O (.var i) s).bind frz) xs [] s).bind fun acc s' => .ok (RV.own (.lst acc)) (backS s0 s' [i]))) = _
  have e1 : evI O (.v (.var j)) s = .ok (f.cps.toList.map chr1) s := by
    show ((ev O (.var j) s).bind fun x s => (frz x s).bind fun d s => Rs.opt (itemsD d) s) = _
    rw [ev_val hj]
    rfl
  have tg : tgIn [i] (.nm i) = true := by simp [tgIn]
  rw [e1, bind_ok, tg, if_neg (by decide), wipe_one hi, bind_ok, c, bind_ok, back_one hi hi]
  show Rs.ok (RV.own (.lst _)) _ = _
  congr 3
  rw [List.nil_append, List.map_id, List.filter_map]
  rfl
/-! ### the figures of a word -/
theorem x_figs1 (O : Ora) (w : Str) (s : Ev) (hs : s[0]? = some (.val (.str w))) : ev O (.ite (.meth "startswith" (.var 0) (.cons (.con (.str ("-" : Str))) .nil)) (.slc (.var 0) (.cons (.con (.int (1))) .nil) .nil) (.var 0)) s = .ok (.d (.str (figs w))) s := by
  have v : ev O (.var 0) s = .ok (.d (.str w)) s := ev_val hs
  have h : methD "startswith" (.str w) [.str (Str.ofString "-")] = some (.d (.bool (negW w))) := by
    show some (RV.d (.bool (Txt.startswith w (Str.ofString "-")))) = _
    rw [starts_neg]
  have hm : mtOf "startswith" (.str w) = true := rfl
  unfold figs
  cases hn : negW w with
  | true =>
    rw [hn] at h
    simp [ev, evs, bind_ok, opt_some, hs, RV.opd, Opd.get, hm, getAll, h, truD, partD, slcD]
  | false =>
    rw [hn] at h
    simp [ev, evs, bind_ok, opt_some, hs, RV.opd, Opd.get, hm, getAll, h, truD]
theorem x_figs2 (O : Ora) (w : Str) (s : Ev) (hs : s[0]? = some (.val (.str w))) : ev O (.ite (.cmp .Eq (.slc (.var 0) .nil (.cons (.con (.int (1))) .nil)) (.con (.str ("-" : Str)))) (.slc (.var 0) (.cons (.con (.int (1))) .nil) .nil) (.var 0)) s = .ok (.d (.str (figs w))) s := by
  have v : ev O (.var 0) s = .ok (.d (.str w)) s := ev_val hs
  have h := eq_head w
  unfold figs
  cases hn : negW w with
  | true =>
    rw [hn] at h
    simp [ev, evs, bind_ok, opt_some, hs, RV.opd, Opd.get, getAll, h, truD, partD, slcD, cmpD]
  | false =>
    rw [hn] at h
    simp [ev, evs, bind_ok, opt_some, hs, RV.opd, Opd.get, getAll, h, truD, partD, slcD, cmpD]
end K01

namespace K01
open PySem GS
def zeroW (f : Str) : Bool := f.cps.toList.head? == some 48
def isZ (w : Str) : Bool := decide (w.cps.toList = [48])
def goodL (f : Str) : Bool := decide (1 ≤ f.length) && decide (f.length ≤ 5)
def valW (w : Str) : Int := if negW w then -((NumText.digitsVal (figs w).cps.toList : Nat) : Int) else ((NumText.digitsVal (figs w).cps.toList : Nat) : Int)
def numD (w : Str) (lo hi : Int) : D :=
  if goodL (figs w) && (figs w).cps.toList.all (inT digs) && !(zeroW (figs w) && !isZ w) then (if decide (lo ≤ valW w) && decide (valW w ≤ hi) then .int (valW w) else .none) else .none
theorem zero_cps : (Str.ofString "0").cps = #[48] := by decide +kernel
theorem starts_zero (w : Str) : Txt.startswith w (Str.ofString "0") = zeroW w := by
  have hd : (Str.ofString "0").length = 1 := by decide +kernel
  have e : Txt.startswith w (Str.ofString "0") = (decide (1 ≤ w.length) && (w.cps.extract 0 1 == #[48])) := by
    show (decide (0 + (Str.ofString "0").length ≤ w.length) && (w.cps.extract 0 (0 + (Str.ofString "0").length) == (Str.ofString "0").cps)) = _
    rw [hd, zero_cps]
  rw [e]
  unfold zeroW
  obtain ⟨⟨l⟩⟩ := w
  cases l with
  | nil => rfl
  | cons c r =>
    show (decide (1 ≤ (c :: r).toArray.size) && ((c :: r).toArray.extract 0 1 == #[48])) = ((c :: r).head? == some 48)
    have e1 : (c :: r).toArray.extract 0 1 = #[c] := by simp
    rw [e1, decide_eq_true (by simp)]
    simp
theorem eq_zero (w : Str) : eqD (.str w) (.str (Str.ofString "0")) = some (isZ w) := by
  rw [str_beq, zero_cps]
  rfl
def F1 : GS.CE := .ite (.meth "startswith" (.var 0) (.cons (.con (.str ("-" : Str))) .nil)) (.slc (.var 0) (.cons (.con (.int (1))) .nil) .nil) (.var 0)
theorem k_num : k_number_in = .cons (.set 3 F1) (.cons (.ife (.or (.not (.chain .LtE .LtE (.con (.int (1))) (.bi "len" (.cons (.var 3) .nil)) (.glob ("MOST_FIGURES" : Str)))) (.not (.bi "all" (.cons q_number_in_0 .nil)))) (.cons (.ret (.con (.none))) .nil) .nil) (.cons (.ife (.and (.meth "startswith" (.var 3) (.cons (.con (.str ("0" : Str))) .nil)) (.cmp .NotEq (.var 0) (.con (.str ("0" : Str))))) (.cons (.ret (.con (.none))) .nil) .nil) (.cons (.set 4 (.bi "int" (.cons (.var 0) .nil))) (.cons (.ret (.ite (.chain .LtE .LtE (.var 1) (.var 4) (.var 2)) (.var 4) (.con (.none)))) .nil)))) := rfl
section
variable (O : Ora) (w : Str) (lo hi : Int) (hM : O.G "MOST_FIGURES" = some (.int 5))
abbrev S0 (w : Str) (lo hi : Int) : Ev := [.val (.str w), .val (.int lo), .val (.int hi), .emp, .emp, .emp]
abbrev S3 (w : Str) (lo hi : Int) (f : Str) : Ev := [.val (.str w), .val (.int lo), .val (.int hi), .val (.str f), .emp, .emp]
abbrev Out (O : Ora) (w : Str) (lo hi : Int) : FR := if decide (([.d (.str w), .d (.int lo), .d (.int hi)] : List AV).length = 3) && decide (3 ≤ 6) && ioFits [.d (.str w), .d (.int lo), .d (.int hi)] none then endF none (exB O k_number_in (startS 6 [.d (.str w), .d (.int lo), .d (.int hi)])) else .stuck
include hM
theorem n_short (hF : ev O F1 (S0 w lo hi) = .ok (.d (.str (figs w))) (S0 w lo hi)) (h : goodL (figs w) = false) : Out O w lo hi = .ok (.d .none) none := by
  by_cases h1 : 1 ≤ (figs w).length
  · have h2 : ¬ (figs w).length ≤ 5 := fun z => by unfold goodL at h; rw [decide_eq_true h1, decide_eq_true z] at h; cases h
    have h1' : (1 : Int) ≤ ((figs w).length : Int) := by omega
    have h2' : ¬ ((figs w).length : Int) ≤ 5 := by omega
    simp [GS.ioFits, GS.startS, GS.slOf, List.range, List.range.loop, GS.exB, GS.exS, GS.ev, GS.evs, GS.evT, GS.evB, GS.evI, GS.bind_ok, GS.opt_some, GS.retV, GS.endF, GS.outOf, GS.RV.opd, GS.Opd.get, GS.getAll, GS.isiD, GS.isFnD, GS.tyD, GS.truD, GS.cmpD, GS.binD, GS.putV, GS.putS, GS.frz, GS.frzL, GS.isIo, GS.biD, GS.D.len, GS.argsOf, GS.frzA, GS.getV, GS.lentOf, GS.outTo, GS.flatR, GS.ownAt, GS.setOb, GS.isOwn, GS.wipeC, GS.wipeS, GS.backS, GS.tgIn, GS.noX, GS.itemsD, GS.Ob.toD, GS.isNonD, GS.ltD, Out, k_num, hF, hM, h1, h2, h1', h2']
  · have h1' : ¬ (1 : Int) ≤ ((figs w).length : Int) := by omega
    simp [GS.ioFits, GS.startS, GS.slOf, List.range, List.range.loop, GS.exB, GS.exS, GS.ev, GS.evs, GS.evT, GS.evB, GS.evI, GS.bind_ok, GS.opt_some, GS.retV, GS.endF, GS.outOf, GS.RV.opd, GS.Opd.get, GS.getAll, GS.isiD, GS.isFnD, GS.tyD, GS.truD, GS.cmpD, GS.binD, GS.putV, GS.putS, GS.frz, GS.frzL, GS.isIo, GS.biD, GS.D.len, GS.argsOf, GS.frzA, GS.getV, GS.lentOf, GS.outTo, GS.flatR, GS.ownAt, GS.setOb, GS.isOwn, GS.wipeC, GS.wipeS, GS.backS, GS.tgIn, GS.noX, GS.itemsD, GS.Ob.toD, GS.isNonD, GS.ltD, Out, k_num, hF, hM, h1, h1']
theorem n_sign (b : List Bool) (hF : ev O F1 (S0 w lo hi) = .ok (.d (.str (figs w))) (S0 w lo hi)) (h : goodL (figs w) = true) (hq : ev O q_number_in_0 (S3 w lo hi (figs w)) = .ok (.own (.lst (b.map .bool))) (S3 w lo hi (figs w))) (hb : b.all id = false) : Out O w lo hi = .ok (.d .none) none := by
  unfold goodL at h
  simp only [Bool.and_eq_true, decide_eq_true_eq] at h
  have h1' : (1 : Int) ≤ ((figs w).length : Int) := by omega
  have h2' : ((figs w).length : Int) ≤ 5 := by omega
  have hb' : ((lstD (.list (b.map PyData.bool))).bind bools).map (fun bs => RV.d (.bool (bs.all id))) = some (.d (.bool false)) := by
    show (bools (b.map PyData.bool)).map _ = _
    rw [bools_map, Option.map_some, hb]
  have hbi : biD "all" [.list (b.map .bool)] = some (.d (.bool false)) := hb'
  simp [Out, k_num, ioFits, startS, slOf, List.range, List.range.loop, exB, exS, ev, evs, evB, bind_ok, opt_some, hF, hM, h.1, h.2, h1', h2', RV.opd, Opd.get, getAll, putV, frz, putS, isIo, truD, cmpD, D.len, biD, hq, retV, endF, outOf, Ob.toD, hb', hbi]
end
end K01

namespace K01
open PySem GS
section
variable (O : Ora) (w : Str) (lo hi : Int) (hM : O.G "MOST_FIGURES" = some (.int 5))
include hM
theorem n_zero (b : List Bool) (hF : ev O F1 (S0 w lo hi) = .ok (.d (.str (figs w))) (S0 w lo hi)) (h : goodL (figs w) = true) (hq : ev O q_number_in_0 (S3 w lo hi (figs w)) = .ok (.own (.lst (b.map .bool))) (S3 w lo hi (figs w))) (hb : b.all id = true) (hz : zeroW (figs w) = true) (hw : isZ w = false) : Out O w lo hi = .ok (.d .none) none := by
  unfold goodL at h
  simp only [Bool.and_eq_true, decide_eq_true_eq] at h
  have h1' : (1 : Int) ≤ ((figs w).length : Int) := by omega
  have h2' : ((figs w).length : Int) ≤ 5 := by omega
  have hb' : ((lstD (.list (b.map PyData.bool))).bind bools).map (fun bs => RV.d (.bool (bs.all id))) = some (.d (.bool true)) := by
    show (bools (b.map PyData.bool)).map _ = _
    rw [bools_map, Option.map_some, hb]
  have hm : mtOf "startswith" (.str (figs w)) = true := rfl
  have hs : methD "startswith" (.str (figs w)) [.str (Str.ofString "0")] = some (.d (.bool true)) := by
    show some (RV.d (.bool (Txt.startswith (figs w) (Str.ofString "0")))) = _
    rw [starts_zero, hz]
  have he : eqD (.str w) (.str (Str.ofString "0")) = some false := by rw [eq_zero, hw]
  simp [Out, k_num, ioFits, startS, slOf, List.range, List.range.loop, exB, exS, ev, evs, evB, bind_ok, opt_some, hF, hM, h.1, h.2, h1', h2', RV.opd, Opd.get, getAll, putV, frz, putS, isIo, truD, cmpD, D.len, biD, hq, retV, endF, outOf, Ob.toD, hb', hm, hs, he]
theorem n_num (b : List Bool) (v : Int) (hF : ev O F1 (S0 w lo hi) = .ok (.d (.str (figs w))) (S0 w lo hi)) (h : goodL (figs w) = true) (hq : ev O q_number_in_0 (S3 w lo hi (figs w)) = .ok (.own (.lst (b.map .bool))) (S3 w lo hi (figs w))) (hb : b.all id = true) (hz : (zeroW (figs w) && !isZ w) = false)
    (hl : w.length ≤ 640) (hv : intText? w = some v) : Out O w lo hi = .ok (.d (if decide (lo ≤ v) && decide (v ≤ hi) then .int v else .none)) none := by
  unfold goodL at h
  simp only [Bool.and_eq_true, decide_eq_true_eq] at h
  have h1' : (1 : Int) ≤ ((figs w).length : Int) := by omega
  have h2' : ((figs w).length : Int) ≤ 5 := by omega
  have hb' : ((lstD (.list (b.map PyData.bool))).bind bools).map (fun bs => RV.d (.bool (bs.all id))) = some (.d (.bool true)) := by
    show (bools (b.map PyData.bool)).map _ = _
    rw [bools_map, Option.map_some, hb]
  have hm : mtOf "startswith" (.str (figs w)) = true := rfl
  have hs : methD "startswith" (.str (figs w)) [.str (Str.ofString "0")] = some (.d (.bool (zeroW (figs w)))) := by
    show some (RV.d (.bool (Txt.startswith (figs w) (Str.ofString "0")))) = _
    rw [starts_zero]
  have he : eqD (.str w) (.str (Str.ofString "0")) = some (isZ w) := eq_zero w
  rcases Bool.eq_false_or_eq_true (zeroW (figs w)) with hz1 | hz1
  · have hw : isZ w = true := by
      rw [hz1] at hz
      simpa using hz
    rw [hz1] at hs
    rw [hw] at he
    by_cases g1 : lo ≤ v <;> by_cases g2 : v ≤ hi <;>
    simp [Out, k_num, ioFits, startS, slOf, List.range, List.range.loop, exB, exS, ev, evs, evB, bind_ok, opt_some, hF, hM, h.1, h.2, h1', h2', RV.opd, Opd.get, getAll, putV, frz, putS, isIo, truD, cmpD, D.len, biD, hq, retV, endF, outOf, Ob.toD, hb', hm, hs, he, hl, hv, g1, g2]
  · rw [hz1] at hs
    by_cases g1 : lo ≤ v <;> by_cases g2 : v ≤ hi <;>
    simp [Out, k_num, ioFits, startS, slOf, List.range, List.range.loop, exB, exS, ev, evs, evB, bind_ok, opt_some, hF, hM, h.1, h.2, h1', h2', RV.opd, Opd.get, getAll, putV, frz, putS, isIo, truD, cmpD, D.len, biD, hq, retV, endF, outOf, Ob.toD, hb', hm, hs, hl, hv, g1, g2]
end
end K01

namespace K01
open PySem GS
theorem lenL (w : Str) : w.cps.toList.length = w.length := Array.length_toList
theorem figs_len (w : Str) : w.length ≤ (figs w).length + 1 ∧ (figs w).length ≤ w.length := by
  unfold figs
  cases hn : negW w with
  | false => exact ⟨Nat.le_succ _, Nat.le_refl _⟩
  | true =>
    have e := congrArg List.length (cut_tail w)
    rw [lenL, List.length_drop, lenL] at e
    show w.length ≤ (L2.cutS w (some 1) none).length + 1 ∧ (L2.cutS w (some 1) none).length ≤ w.length
    omega
theorem all_digits {cs : List Nat} (h : cs.all (inT digs) = true) : NumText.AllDigits cs := fun c hc => by
  have := List.all_eq_true.mp h c hc
  rw [in_digs] at this
  simpa using this
theorem int_val (w : Str) (hl : goodL (figs w) = true) (hd : (figs w).cps.toList.all (inT digs) = true) : intText? w = some (valW w) ∧ w.length ≤ 640 := by
  unfold goodL at hl
  simp only [Bool.and_eq_true, decide_eq_true_eq] at hl
  have hw := figs_len w
  have ne : (figs w).cps.toList ≠ [] := fun z => by
    have := congrArg List.length z
    rw [lenL] at this
    simp at this
    omega
  refine ⟨?_, by omega⟩
  have ad := all_digits hd
  unfold valW
  cases hn : negW w with
  | false =>
    have e : figs w = w := by unfold figs; rw [hn]; rfl
    rw [e] at ad ne ⊢
    exact intText_digits ad ne (by omega)
  | true =>
    have e : (figs w).cps.toList = w.cps.toList.drop 1 := by unfold figs; rw [hn]; exact cut_tail w
    rw [e] at ad ne ⊢
    have hc : w.cps.toList = 45 :: w.cps.toList.drop 1 := by
      unfold negW at hn
      cases q : w.cps.toList with
      | nil => rw [q] at hn; cases hn
      | cons c r =>
        rw [q] at hn
        have : c = 45 := by simpa using hn
        rw [this]
        rfl
    exact intText_neg hc ad ne (by omega)
theorem r_number_in (k : Nat) (w : Str) (lo hi : Int) (hl : w.length ≤ 6000) : run prog (k + 1) "number_in" [.d (.str w), .d (.int lo), .d (.int hi)] = .ok (.d (numD w lo hi)) none := by
  refine run_ex (fun r => r = .ok (.d (numD w lo hi)) none) fs_number_in fun O hΦ hG => ?_
  have g1 : O.G "FIGURES" = some (.str digs) := by rw [hG]; rfl
  have g2 : O.G "MOST_FIGURES" = some (.int 5) := by rw [hG]; rfl
  have hF : ev O F1 (S0 w lo hi) = .ok (.d (.str (figs w))) (S0 w lo hi) := x_figs1 O w _ rfl
  have hq : ev O q_number_in_0 (S3 w lo hi (figs w)) = _ := chars_in (s := S3 w lo hi (figs w)) (i := 5) (j := 3) (f := figs w) g1 rfl rfl (by have := (figs_len w).2; omega)
  show Out O w lo hi = _
  unfold numD
  cases h : goodL (figs w) with
  | false => exact n_short O w lo hi g2 hF h
  | true =>
    cases hd : (figs w).cps.toList.all (inT digs) with
    | false => exact n_sign O w lo hi g2 _ hF h hq (by rw [List.all_map]; exact hd)
    | true =>
      have ha : (((figs w).cps.toList.map (inT digs)).all id) = true := by rw [List.all_map]; exact hd
      cases hz : (zeroW (figs w) && !isZ w) with
      | true =>
        rw [Bool.and_eq_true] at hz
        exact n_zero O w lo hi g2 _ hF h hq ha hz.1 (by simpa using hz.2)
      | false =>
        obtain ⟨hv, h6⟩ := int_val w h hd
        exact n_num O w lo hi g2 _ _ hF h hq ha hz h6 hv
end K01

namespace K01
open PySem GS
abbrev R6 (w : Str) (lo hi : Int) (f : Str) (l : List D) (v : Int) (z : Sl) : Ev := [.val (.str w), .val (.int lo), .val (.int hi), .val (.str f), .own (.lst l), .val (.int v), z]
def rB : CSs := .cons (.set 5 (.bin .Add (.bin .Mult (.con (.int (10))) (.var 5)) (.meth "index" (.con (.str ("0123456789" : Str))) (.cons (.var 6) .nil)))) .nil
theorem rB_one (O : Ora) (w : Str) (lo hi : Int) (f : Str) (l : List D) (v : Nat) (c : Nat) (h0 : 48 ≤ c) (h1 : c ≤ 57) :
    exB O rB (R6 w lo hi f l v (.val (chr1 c))) = .ok .nx (R6 w lo hi f l (v * 10 + (c - 48) : Nat) (.val (chr1 c))) := by
  have h := index_digit h0 h1
  have hm : mtOf "index" (.str (Str.ofString "0123456789")) = true := rfl
  have e : ((10 : Int) * (v : Int) + ((c - 48 : Nat) : Int)) = ((v * 10 + (c - 48) : Nat) : Int) := by omega
  have h' : methD "index" (.str (Str.ofString "0123456789")) [chr1 c] = some (.d (.int ((c - 48 : Nat) : Int))) := h
  have e2 : ((10 : Int) * (v : Int) + ((c - 48 : Nat) : Int)) = ((v : Int) * 10 + ((c - 48 : Nat) : Int)) := by omega
  have mk : mulOk 10 (v : Int) = true := by unfold mulOk; simp
  simp [GS.ioFits, GS.startS, GS.slOf, List.range, List.range.loop, GS.exB, GS.exS, GS.ev, GS.evs, GS.evT, GS.evB, GS.evI, GS.bind_ok, GS.opt_some, GS.retV, GS.endF, GS.outOf, GS.RV.opd, GS.Opd.get, GS.getAll, GS.isiD, GS.isFnD, GS.tyD, GS.truD, GS.cmpD, GS.binD, GS.putV, GS.putS, GS.frz, GS.frzL, GS.isIo, GS.biD, GS.D.len, GS.argsOf, GS.frzA, GS.getV, GS.lentOf, GS.outTo, GS.flatR, GS.ownAt, GS.setOb, GS.isOwn, GS.wipeC, GS.wipeS, GS.backS, GS.tgIn, GS.noX, GS.itemsD, GS.Ob.toD, GS.isNonD, GS.ltD, rB, h', hm, e2, mk]
theorem read_loop (O : Ora) (w : Str) (lo hi : Int) (f : Str) (l : List D) : ∀ (cs : List Nat) (v : Nat) (z : Sl), isOwn (some z) = false → (∀ c ∈ cs, 48 ≤ c ∧ c ≤ 57) →
    ∃ z', isOwn (some z') = false ∧ forL (bindT (.nm 6)) (fun s => exB O rB s) (cs.map chr1) (R6 w lo hi f l v z) = .ok .nx (R6 w lo hi f l (cs.foldl (fun a c => a * 10 + (c - 48)) v : Nat) z')
  | [], v, z, hz, _ => ⟨z, hz, rfl⟩
  | c :: cs, v, z, hz, h => by
    obtain ⟨h0, h1⟩ := h c List.mem_cons_self
    obtain ⟨z', hz', e⟩ := read_loop O w lo hi f l cs (v * 10 + (c - 48)) (.val (chr1 c)) rfl (fun y hy => h y (List.mem_cons_of_mem _ hy))
    refine ⟨z', hz', ?_⟩
    have p : bindT (.nm 6) (chr1 c) (R6 w lo hi f l v z) = .ok () (R6 w lo hi f l v (.val (chr1 c))) := by
      show putS 6 (.val (chr1 c)) _ = _
      cases z with
      | own o => cases hz
      | io o => cases hz
      | _ => rfl
    show ((bindT (.nm 6) (chr1 c) (R6 w lo hi f l v z)).bind fun _ s => (exB O rB s).bind _) = _
    rw [p, bind_ok, rB_one O w lo hi f l v c h0 h1, bind_ok]
    exact e
theorem x_loop (O : Ora) (w : Str) (lo hi : Int) (f : Str) (l : List D) (h : f.cps.toList.all (inT digs) = true) :
    ∃ z', isOwn (some z') = false ∧ exS O q__law_read_1 (R6 w lo hi f l 0 .emp) = .ok .nx (R6 w lo hi f l (NumText.digitsVal f.cps.toList : Nat) z') := by
  obtain ⟨z', hz, e⟩ := read_loop O w lo hi f l f.cps.toList 0 .emp rfl (all_digits h)
  exact ⟨z', hz, e⟩
end K01

namespace K01
open PySem GS
def F2 : GS.CE := .ite (.cmp .Eq (.slc (.var 0) .nil (.cons (.con (.int (1))) .nil)) (.con (.str ("-" : Str)))) (.slc (.var 0) (.cons (.con (.int (1))) .nil) .nil) (.var 0)
def F3 : GS.CE := .ite (.cmp .Eq (.slc (.var 0) .nil (.cons (.con (.int (1))) .nil)) (.con (.str ("-" : Str)))) (.bin .Sub (.con (.int (0))) (.var 5)) (.var 5)
def rEnd : CSs := .cons (.set 5 F3) (.cons (.ret (.ite (.chain .LtE .LtE (.var 1) (.var 5) (.var 2)) (.var 5) (.con (.none)))) .nil)
def rC : GS.CE := .or (.not (.chain .Lt .Lt (.con (.int (0))) (.bi "len" (.cons (.var 3) .nil)) (.con (.int (6))))) (.or (.cmp .NotEq (.var 4) (.lst .nil)) (.and (.cmp .Eq (.idx (.var 3) (.con (.int (0)))) (.con (.str ("0" : Str)))) (.cmp .NotEq (.var 0) (.con (.str ("0" : Str))))))
theorem k_read : k__law_read = .cons (.set 3 F2) (.cons (.set 4 q__law_read_0) (.cons (.ife rC (.cons (.ret (.con (.none))) .nil) .nil) (.cons (.set 5 (.con (.int (0)))) (.cons q__law_read_1 rEnd)))) := rfl
theorem x_end (O : Ora) (w : Str) (lo hi : Int) (f : Str) (l : List D) (v : Nat) (z : Sl) :
    exB O rEnd (R6 w lo hi f l v z) = .ok (.ret (.d (if decide (lo ≤ (if negW w then -(v : Int) else v)) && decide ((if negW w then -(v : Int) else v) ≤ hi) then .int (if negW w then -(v : Int) else v) else .none))) (R6 w lo hi f l (if negW w then -(v : Int) else v) z) := by
  have h := eq_head w
  cases hn : negW w with
  | true =>
    rw [hn] at h
    have e : (0 : Int) - (v : Int) = -(v : Int) := by omega
    by_cases g1 : lo ≤ -(v : Int) <;> by_cases g2 : -(v : Int) ≤ hi <;> simp [GS.ioFits, GS.startS, GS.slOf, List.range, List.range.loop, GS.exB, GS.exS, GS.ev, GS.evs, GS.evT, GS.evB, GS.evI, GS.bind_ok, GS.opt_some, GS.retV, GS.endF, GS.outOf, GS.RV.opd, GS.Opd.get, GS.getAll, GS.isiD, GS.isFnD, GS.tyD, GS.truD, GS.cmpD, GS.binD, GS.putV, GS.putS, GS.frz, GS.frzL, GS.isIo, GS.biD, GS.D.len, GS.argsOf, GS.frzA, GS.getV, GS.lentOf, GS.outTo, GS.flatR, GS.ownAt, GS.setOb, GS.isOwn, GS.wipeC, GS.wipeS, GS.backS, GS.tgIn, GS.noX, GS.itemsD, GS.Ob.toD, GS.isNonD, GS.ltD, rEnd, F3, h, partD, slcD, e, g1, g2]
  | false =>
    rw [hn] at h
    by_cases g1 : lo ≤ (v : Int) <;> by_cases g2 : (v : Int) ≤ hi <;> simp [GS.ioFits, GS.startS, GS.slOf, List.range, List.range.loop, GS.exB, GS.exS, GS.ev, GS.evs, GS.evT, GS.evB, GS.evI, GS.bind_ok, GS.opt_some, GS.retV, GS.endF, GS.outOf, GS.RV.opd, GS.Opd.get, GS.getAll, GS.isiD, GS.isFnD, GS.tyD, GS.truD, GS.cmpD, GS.binD, GS.putV, GS.putS, GS.frz, GS.frzL, GS.isIo, GS.biD, GS.D.len, GS.argsOf, GS.frzA, GS.getV, GS.lentOf, GS.outTo, GS.flatR, GS.ownAt, GS.setOb, GS.isOwn, GS.wipeC, GS.wipeS, GS.backS, GS.tgIn, GS.noX, GS.itemsD, GS.Ob.toD, GS.isNonD, GS.ltD, rEnd, F3, h, partD, slcD, g1, g2]
abbrev R5 (w : Str) (lo hi : Int) (f : Str) (l : List D) : Ev := [.val (.str w), .val (.int lo), .val (.int hi), .val (.str f), .own (.lst l), .emp, .emp]
theorem x_cond1 (O : Ora) (w : Str) (lo hi : Int) (f : Str) (l : List D) (h : goodL f = false) : evB O rC (R5 w lo hi f l) = .ok true (R5 w lo hi f l) := by
  by_cases h1 : 1 ≤ f.length
  · have h2 : ¬ f.length ≤ 5 := fun z => by unfold goodL at h; rw [decide_eq_true h1, decide_eq_true z] at h; cases h
    have h1' : (0 : Int) < (f.length : Int) := by omega
    have h2' : ¬ (f.length : Int) < 6 := by omega
    have h1n : 0 < f.length := by omega
    have h2n : ¬ f.length < 6 := by omega
    simp [GS.ioFits, GS.startS, GS.slOf, List.range, List.range.loop, GS.exB, GS.exS, GS.ev, GS.evs, GS.evT, GS.evB, GS.evI, GS.bind_ok, GS.opt_some, GS.retV, GS.endF, GS.outOf, GS.RV.opd, GS.Opd.get, GS.getAll, GS.isiD, GS.isFnD, GS.tyD, GS.truD, GS.cmpD, GS.binD, GS.putV, GS.putS, GS.frz, GS.frzL, GS.isIo, GS.biD, GS.D.len, GS.argsOf, GS.frzA, GS.getV, GS.lentOf, GS.outTo, GS.flatR, GS.ownAt, GS.setOb, GS.isOwn, GS.wipeC, GS.wipeS, GS.backS, GS.tgIn, GS.noX, GS.itemsD, GS.Ob.toD, GS.isNonD, GS.ltD, rC, h1', h2', h1n, h2n]
  · have h1' : ¬ (0 : Int) < (f.length : Int) := by omega
    have h1n : ¬ 0 < f.length := by omega
    have h0 : f.length = 0 := by omega
    simp [GS.ioFits, GS.startS, GS.slOf, List.range, List.range.loop, GS.exB, GS.exS, GS.ev, GS.evs, GS.evT, GS.evB, GS.evI, GS.bind_ok, GS.opt_some, GS.retV, GS.endF, GS.outOf, GS.RV.opd, GS.Opd.get, GS.getAll, GS.isiD, GS.isFnD, GS.tyD, GS.truD, GS.cmpD, GS.binD, GS.putV, GS.putS, GS.frz, GS.frzL, GS.isIo, GS.biD, GS.D.len, GS.argsOf, GS.frzA, GS.getV, GS.lentOf, GS.outTo, GS.flatR, GS.ownAt, GS.setOb, GS.isOwn, GS.wipeC, GS.wipeS, GS.backS, GS.tgIn, GS.noX, GS.itemsD, GS.Ob.toD, GS.isNonD, GS.ltD, rC, h1', h1n, h0]
theorem x_cond2 (O : Ora) (w : Str) (lo hi : Int) (f : Str) (cs : List Nat) (h : goodL f = true) (hc : cs.isEmpty = false) : evB O rC (R5 w lo hi f (cs.map chr1)) = .ok true (R5 w lo hi f (cs.map chr1)) := by
  unfold goodL at h
  simp only [Bool.and_eq_true, decide_eq_true_eq] at h
  have h1' : (0 : Int) < (f.length : Int) := by omega
  have h2' : (f.length : Int) < 6 := by omega
  have h1n : 0 < f.length := by omega
  have h2n : f.length < 6 := by omega
  have he := eq_nil cs
  rw [hc] at he
  simp [GS.ioFits, GS.startS, GS.slOf, List.range, List.range.loop, GS.exB, GS.exS, GS.ev, GS.evs, GS.evT, GS.evB, GS.evI, GS.bind_ok, GS.opt_some, GS.retV, GS.endF, GS.outOf, GS.RV.opd, GS.Opd.get, GS.getAll, GS.isiD, GS.isFnD, GS.tyD, GS.truD, GS.cmpD, GS.binD, GS.putV, GS.putS, GS.frz, GS.frzL, GS.isIo, GS.biD, GS.D.len, GS.argsOf, GS.frzA, GS.getV, GS.lentOf, GS.outTo, GS.flatR, GS.ownAt, GS.setOb, GS.isOwn, GS.wipeC, GS.wipeS, GS.backS, GS.tgIn, GS.noX, GS.itemsD, GS.Ob.toD, GS.isNonD, GS.ltD, rC, h1', h2', h1n, h2n, he]
theorem x_cond3 (O : Ora) (w : Str) (lo hi : Int) (f : Str) (h : goodL f = true) : evB O rC (R5 w lo hi f []) = .ok (zeroW f && !isZ w) (R5 w lo hi f []) := by
  unfold goodL at h
  simp only [Bool.and_eq_true, decide_eq_true_eq] at h
  have h1' : (0 : Int) < (f.length : Int) := by omega
  have h2' : (f.length : Int) < 6 := by omega
  have h1n : 0 < f.length := by omega
  have h2n : f.length < 6 := by omega
  have he : eqD (.list []) (.list []) = some true := eq_nil []
  obtain ⟨c, r, hcr⟩ : ∃ c r, f.cps.toList = c :: r := by
    cases q : f.cps.toList with
    | nil => have := lenL f; rw [q] at this; simp at this; omega
    | cons c r => exact ⟨c, r, rfl⟩
  have hi : idxD (.str f) (.int 0) = some (chr1 c) := by
    show (L2.atI f.cps.toList ((0 : Nat) : Int)).map chr1 = _
    rw [hcr, show L2.atI (c :: r) ((0 : Nat) : Int) = some c from L2.atI_nat rfl]
    rfl
  have hz : eqD (chr1 c) (.str (Str.ofString "0")) = some (zeroW f) := by
    show eqD (.str ⟨#[c]⟩) _ = _
    rw [str_beq, zero_cps]
    unfold zeroW
    rw [hcr]
    congr 1
    rw [Bool.eq_iff_iff]
    simp
  have hw := eq_zero w
  generalize zeroW f = a at hz ⊢
  generalize isZ w = b at hw ⊢
  cases a <;> cases b <;> simp [GS.ioFits, GS.startS, GS.slOf, List.range, List.range.loop, GS.exB, GS.exS, GS.ev, GS.evs, GS.evT, GS.evB, GS.evI, GS.bind_ok, GS.opt_some, GS.retV, GS.endF, GS.outOf, GS.RV.opd, GS.Opd.get, GS.getAll, GS.isiD, GS.isFnD, GS.tyD, GS.truD, GS.cmpD, GS.binD, GS.putV, GS.putS, GS.frz, GS.frzL, GS.isIo, GS.biD, GS.D.len, GS.argsOf, GS.frzA, GS.getV, GS.lentOf, GS.outTo, GS.flatR, GS.ownAt, GS.setOb, GS.isOwn, GS.wipeC, GS.wipeS, GS.backS, GS.tgIn, GS.noX, GS.itemsD, GS.Ob.toD, GS.isNonD, GS.ltD, rC, h1', h2', h1n, h2n, he, hi, hz, hw]
end K01

namespace K01
open PySem GS
abbrev R0 (w : Str) (lo hi : Int) : Ev := [.val (.str w), .val (.int lo), .val (.int hi), .emp, .emp, .emp, .emp]
abbrev R3 (w : Str) (lo hi : Int) (f : Str) : Ev := [.val (.str w), .val (.int lo), .val (.int hi), .val (.str f), .emp, .emp, .emp]
theorem x_read (O : Ora) (w : Str) (lo hi : Int) (hl : w.length ≤ 6000) : exB O k__law_read (R0 w lo hi) = exB O (.cons (.ife rC (.cons (.ret (.con (.none))) .nil) .nil) (.cons (.set 5 (.con (.int (0)))) (.cons q__law_read_1 rEnd))) (R5 w lo hi (figs w) (((figs w).cps.toList.filter fun c => !inT digs c).map chr1)) := by
  have hF : ev O F2 (R0 w lo hi) = .ok (.d (.str (figs w))) (R0 w lo hi) := x_figs2 O w _ rfl
  have hq : ev O q__law_read_0 (R3 w lo hi (figs w)) = _ := chars_out (s := R3 w lo hi (figs w)) (i := 6) (j := 3) (f := figs w) (t := digs) rfl rfl (by have := (figs_len w).2; omega)
  rw [k_read]
  show ((((ev O F2 (R0 w lo hi)).bind fun v s => (putV 3 v s).bind fun _ s => .ok .nx s) : Rs Fl).bind _) = _
  rw [hF, bind_ok]
  show ((((ev O q__law_read_0 (R3 w lo hi (figs w))).bind fun v s => (putV 4 v s).bind fun _ s => .ok .nx s) : Rs Fl).bind _) = _
  rw [hq, bind_ok]
  rfl
theorem x_none (O : Ora) (r : CSs) (s : Ev) (h : evB O rC s = .ok true s) : exB O (.cons (.ife rC (.cons (.ret (.con (.none))) .nil) .nil) r) s = .ok (.ret (.d .none)) s := by
  show ((((evB O rC s).bind fun t s => if t then exB O (.cons (.ret (.con (.none))) .nil) s else exB O .nil s) : Rs Fl).bind _) = _
  rw [h, bind_ok]
  rfl
theorem x_go (O : Ora) (r : CSs) (s : Ev) (h : evB O rC s = .ok false s) : exB O (.cons (.ife rC (.cons (.ret (.con (.none))) .nil) .nil) r) s = exB O r s := by
  show ((((evB O rC s).bind fun t s => if t then exB O (.cons (.ret (.con (.none))) .nil) s else exB O .nil s) : Rs Fl).bind _) = _
  rw [h, bind_ok]
  rfl
theorem none_cs (f : Str) (h : f.cps.toList.all (inT digs) = true) : (f.cps.toList.filter fun c => !inT digs c) = [] := by
  have := none_out (inT digs) f.cps.toList
  rw [h] at this
  simpa using this
theorem r_law_read (k : Nat) (w : Str) (lo hi : Int) (hl : w.length ≤ 6000) : run prog (k + 1) "_law_read" [.d (.str w), .d (.int lo), .d (.int hi)] = .ok (.d (numD w lo hi)) none := by
  refine run_ex (fun r => r = .ok (.d (numD w lo hi)) none) fs__law_read fun O hΦ hG => ?_
  show endF none (exB O k__law_read (R0 w lo hi)) = _
  rw [x_read O w lo hi hl]
  unfold numD
  cases h : goodL (figs w) with
  | false => rw [x_none O _ _ (x_cond1 O w lo hi _ _ h)]; rfl
  | true =>
    cases hd : (figs w).cps.toList.all (inT digs) with
    | false =>
      have hc := none_out (inT digs) (figs w).cps.toList
      rw [hd] at hc
      rw [x_none O _ _ (x_cond2 O w lo hi _ _ h hc)]
      rfl
    | true =>
      rw [none_cs _ hd, List.map_nil]
      have hc := x_cond3 O w lo hi _ h
      cases hz : (zeroW (figs w) && !isZ w) with
      | true => rw [hz] at hc; rw [x_none O _ _ hc]; rfl
      | false =>
        rw [hz] at hc
        rw [x_go O _ _ hc]
        obtain ⟨z, hz', e⟩ := x_loop O w lo hi (figs w) [] hd
        show endF none ((exS O q__law_read_1 (R6 w lo hi (figs w) [] 0 .emp)).bind _) = _
        rw [e, bind_ok]
        show endF none (exB O rEnd (R6 w lo hi (figs w) [] _ z)) = _
        rw [x_end]
        rfl
end K01

namespace K01
open PySem GS
theorem r_same (k : Nat) (w : Str) (lo hi : Int) : run prog (k + 1) "_law_same" [.d (numD w lo hi), .d (numD w lo hi)] = .ok (.d (.bool true)) none := by
  unfold numD
  split
  · split
    · exact r_same_int k _
    · exact r_same_none k
  · exact r_same_none k
/-- the names' word is one sign: the loop's slot holds what r_same wants -/
theorem numD_fn (w : Str) (lo hi : Int) : isFnD (numD w lo hi) = false := by
  unfold numD
  split
  · split <;> rfl
  · rfl
end K01

namespace K01
open PySem GS
theorem len_of (s : String) : (Str.ofString s).length = s.toList.length := by
  rw [Str.ofString_eq_toList]
  show (s.toList.map Char.toNat).toArray.size = _
  simp
theorem num_word (i : Int) (h : i.natAbs < 10 ^ 10) : Wd 11 (Str.ofString (toString i)) := by
  refine ⟨?_, ?_⟩
  · show (Str.ofString (toString i)).cps.all (· < 0x110000) = true
    rw [← Array.all_toList]
    exact List.all_eq_true.mpr fun c hc => by
      have := PySem.W.KSb.asc_num i c hc
      simp
      omega
  · cases i with
    | ofNat m =>
      exact Nat.le_trans (PySem.W.KT.len_num (n := (m : Int)) (by omega) (by have : (Int.ofNat m).natAbs = m := rfl; omega)) (by decide)
    | negSucc m =>
      have hm : (Int.negSucc m).natAbs = m + 1 := rfl
      have q := PySem.W.KT.len_num (n := ((m + 1 : Nat) : Int)) (by omega) (by omega)
      rw [len_of] at q ⊢
      have e : toString (Int.negSucc m) = "-" ++ toString ((m + 1 : Nat) : Int) := rfl
      rw [e, String.toList_append, List.length_append]
      have : ("-" : String).toList.length = 1 := by decide
      omega
theorem bi_str (i : Int) (h : i.natAbs < 10 ^ 10) : biD "str" [.int i] = some (.d (.str (toString i))) := by
  have w := (num_word i h).ok
  have l : i.natAbs.log2 < 1920 := by
    by_cases z : i.natAbs = 0
    · rw [z]; decide
    · rw [Nat.log2_lt z]
      exact Nat.lt_of_lt_of_le h (Nat.le_trans (by decide : 10 ^ 10 ≤ 2 ^ 40) (Nat.pow_le_pow_right (by decide) (by decide)))
  show (if (decide (i.natAbs.log2 < 1920) && PyData.strOk (Str.ofString (toString i))) = true then _ else _) = _
  rw [w, decide_eq_true l]
  rfl
end K01

namespace K01
open PySem GS
def G3 : GS.CE := .idx (.lst (.cons (.con (.int (1))) (.cons (.con (.int (2))) (.cons (.con (.int (3))) (.cons (.con (.int (4))) (.cons (.con (.int (5))) (.cons (.con (.int (6))) .nil))))))) (.call ("_law_next" : Str) (.cons (.var 0) (.cons (.con (.int (6))) .nil)) [.io 0, .pos 1])
def G4 : GS.CE := .meth "join" (.con (.str ("" : Str))) (.cons q__law_some_0 .nil)
def G5 : GS.CE := .lst (.cons (.call ("_law_letters" : Str) (.cons (.var 0) (.cons (.var 1) .nil)) [.io 0, .pos 1]) (.cons (.var 4) (.cons (.bin .Add (.con (.str ("-" : Str))) (.var 4)) (.cons (.bi "str" (.cons (.call ("_law_next" : Str) (.cons (.var 0) (.cons (.con (.int (1200))) .nil)) [.io 0, .pos 1]) .nil)) (.cons (.bin .Add (.con (.str ("-" : Str))) (.bi "str" (.cons (.call ("_law_next" : Str) (.cons (.var 0) (.cons (.con (.int (10200))) .nil)) [.io 0, .pos 1]) .nil))) .nil)))))
def G6 : GS.CE := .lst (.cons (.con (.str ("" : Str))) (.cons (.con (.str (" " : Str))) (.cons (.con (.str ("-" : Str))) (.cons (.con (.str ("--1" : Str))) (.cons (.con (.str ("-0" : Str))) (.cons (.con (.str ("0" : Str))) (.cons (.con (.str ("00" : Str))) (.cons (.con (.str ("+1" : Str))) (.cons (.bin .Mult (.con (.str ("7" : Str))) (.con (.int (5000)))) (.cons (.con (.str ("1-" : Str))) .nil))))))))))
theorem k_some : k__law_some = .cons (.tset (.tup [1, 2]) (.tup (.cons (.con (.str ("abcdefghijklmnopqrstuvwxyz" : Str))) (.cons (.con (.str ("0123456789" : Str))) .nil)))) (.cons (.set 3 G3) (.cons (.set 4 G4) (.cons (.set 5 G5) (.cons (.ret (.bin .Add q__law_some_1 G6)) .nil)))) := rfl
abbrev T2 (d : Dr) : Ev := [.io d.ob, .val (.str small), .val (.str digs), .emp, .emp, .emp, .emp, .emp]
abbrev T3 (n : Nat) (d : Dr) : Ev := [.io d.ob, .val (.str small), .val (.str digs), .val (.int (n : Int)), .emp, .emp, .emp, .emp]
abbrev T4 (n : Nat) (y : Str) (d : Dr) : Ev := [.io d.ob, .val (.str small), .val (.str digs), .val (.int (n : Int)), .val (.str y), .emp, .emp, .emp]
abbrev T5 (n : Nat) (y : Str) (l : List D) (d : Dr) : Ev := [.io d.ob, .val (.str small), .val (.str digs), .val (.int (n : Int)), .val (.str y), .own (.lst l), .emp, .emp]
theorem some_size (O : Ora) (d d2 : Dr) (p : Int) (n : Nat)
  (e2 : O.Φ "_law_next" [.io d.ob, .d (.int 6)] = .ok (.d (.int p)) (some d2.ob))
  (hsz : idxD (.list [.int 1, .int 2, .int 3, .int 4, .int 5, .int 6]) (.int p) = some (.int (n : Int))) (hsl : sizeLine = 16777216) :
  ev O G3 (T2 d) = .ok (.d (.int (n : Int))) (T2 d2) := by
  simp [GS.ioFits, GS.startS, GS.slOf, List.range, List.range.loop, GS.exB, GS.exS, GS.ev, GS.evs, GS.evT, GS.evB, GS.evI, GS.bind_ok, GS.opt_some, GS.retV, GS.endF, GS.outOf, GS.RV.opd, GS.Opd.get, GS.getAll, GS.isiD, GS.isFnD, GS.tyD, GS.truD, GS.cmpD, GS.binD, GS.putV, GS.putS, GS.frz, GS.frzL, GS.isIo, GS.biD, GS.D.len, GS.argsOf, GS.frzA, GS.getV, GS.lentOf, GS.outTo, GS.flatR, GS.ownAt, GS.setOb, GS.isOwn, GS.wipeC, GS.wipeS, GS.backS, GS.tgIn, GS.noX, GS.itemsD, GS.Ob.toD, GS.isNonD, GS.ltD, G3, e2, hsz, hsl]
theorem some_words (O : Ora) (n : Nat) (y x A B : Str) (d d1 d2 d3 : Dr) (u v : Int) (hy : y.length ≤ 6)
  (e1 : O.Φ "_law_letters" [.io d.ob, .d (.str small)] = .ok (.d (.str x)) (some d1.ob))
  (e2 : O.Φ "_law_next" [.io d1.ob, .d (.int 1200)] = .ok (.d (.int u)) (some d2.ob))
  (e3 : O.Φ "_law_next" [.io d2.ob, .d (.int 10200)] = .ok (.d (.int v)) (some d3.ob))
  (hu : biD "str" [.int u] = some (.d (.str A))) (hv : biD "str" [.int v] = some (.d (.str B))) (lv : B.length ≤ 11) (hsl : sizeLine = 16777216) (hd : (Str.ofString "-").length = 1) :
  ev O G5 (T4 n y d) = .ok (.own (.lst ([x, y, Str.ofString "-" ++ y, A, Str.ofString "-" ++ B].map .str))) (T4 n y d3) := by
  have l1 : 1 + y.length ≤ 16777216 := by omega
  have l2 : 1 + B.length ≤ 16777216 := by omega
  simp [G5, T4, ev, evs, bind_ok, opt_some, argsOf, RV.opd, Opd.get, getAll, frz, frzL, frzA, putV, putS, getV, lentOf, outTo, flatR, ownAt, setOb, isIo, isOwn, e1, e2, e3, hu, hv, binD, hsl, hd, l1, l2, Str.length_append]
/-- a comprehension over a list's words whose turns draw -/
theorem comp_words {O : Ora} {i m n c : Nat} {it : CI} {s0 : Ev} {e : GS.CE} {S : Dr → Ev} {d : Dr} {b : Int} {ws : List Str} (h : d.Ok b) (hn : ws.length ≤ 1000) (hc : c ≤ 1000)
    (slot : ∀ d, (S d)[i]? = some .emp) (e1 : evI O it s0 = .ok (ws.map .str) (S d)) (hw : ∀ w ∈ ws, Wd m w)
    (turn : ∀ (d : Dr) (b : Int) (w : Str), Wd m w → d.Ok b → b < 2 ^ 38 → ∃ (y : Str) (d' : Dr), ((ev O e ((S d).set i (.val (.str w)))).bind frz) = .ok (.str y) ((S d').set i (.val (.str w))) ∧ Wd n y ∧ d'.Ok (b + c)) (hb : b + 1000000 < 2 ^ 38) :
    ∃ (ys : List Str) (d' : Dr), ev O (.comp [i] (.nm i) it .nil e) s0 = .ok (.own (.lst (ys.map .str))) (S d') ∧ ys.length = ws.length ∧ (∀ y ∈ ys, Wd n y) ∧ d'.Ok (b + c * ws.length) := by
  have hsl : sizeLine = 16777216 := sizeLine_eq
  obtain ⟨acc, s', e2, ⟨ys, d', rfl, rfl, h', w'⟩, l⟩ := compL_inv (i := i) (tests := fun s => evT O .nil s) (elt := fun s => (ev O e s).bind frz) ws.length
    (fun acc s => ∃ (ys : List Str) (d' : Dr), acc = ys.map PyData.str ∧ s = S d' ∧ d'.Ok (b + c * ys.length) ∧ ∀ y ∈ ys, Wd n y) (ws.map .str) [] (S d) ⟨[], d, rfl, rfl, by simpa using h, fun _ z => by cases z⟩ (by simp) (by omega) (by
      rintro x hx acc s hlt ⟨ys, d1, rfl, rfl, h1, w⟩
      rw [List.length_map] at hlt
      obtain ⟨wd, hwd, rfl⟩ := List.mem_map.mp hx
      have hcy : c * ys.length ≤ 1000 * 1000 := Nat.mul_le_mul hc (by omega)
      have hcy' : (c : Int) * (ys.length : Int) ≤ 1000000 := by have q := Int.ofNat_le.mpr hcy; rw [Int.natCast_mul] at q; exact q
      obtain ⟨y, d2, e, wy, h2⟩ := turn d1 (b + c * ys.length) wd (hw wd hwd) h1 (by omega)
      have hi := (List.getElem?_eq_some_iff.mp (slot d2)).1
      refine ⟨slot d1, .str y, (S d2).set i (.val (.str wd)), rfl, e, by rw [List.getElem?_set_self hi]; rfl, ys ++ [y], d2, by rw [List.map_append]; rfl, set_emp (slot d2), ?_, ?_⟩
      · rw [List.length_append, List.length_singleton]
        have : b + (c : Int) * ((ys.length + 1 : Nat) : Int) = b + c * ys.length + c := by
          rw [Int.natCast_add, Int.mul_add]
          omega
        rw [this]
        exact h2
      · intro z hz
        rcases List.mem_append.mp hz with hz | hz
        · exact w z hz
        · rw [List.mem_singleton.mp hz]; exact wy)
  rw [List.length_map] at l
  refine ⟨ys, d', ?_, l, w', l ▸ h'⟩
  show ((evI O it s0).bind fun xs s0 => if !tgIn [i] (.nm i) then Rs.stuck else (wipeC [i] s0).bind fun _ s =>
    noX ((compL [i] (.nm i) (fun s => evT O .nil s) (fun s => (ev O e s).bind frz) xs [] s).bind fun acc s' => .ok (RV.own (.lst acc)) (backS s0 s' [i]))) = _
  have tg : tgIn [i] (.nm i) = true := by simp [tgIn]
  rw [e1, bind_ok, tg, if_neg (by decide), wipe_one (slot d), bind_ok, e2, bind_ok, back_one (slot d) (slot d')]
  rfl
end K01

namespace K01
open PySem GS
def rep55 (n : Nat) : Str := ⟨((List.replicate n [55]).flatten).toArray⟩
theorem rep55_len (n : Nat) : (rep55 n).length = n := by
  show ((List.replicate n [55]).flatten).toArray.size = n
  simp
theorem rep55_ok (n : Nat) : Wd n (rep55 n) := by
  refine ⟨?_, Nat.le_of_eq (rep55_len n)⟩
  show (((List.replicate n [55]).flatten).toArray).all (· < 0x110000) = true
  rw [← Array.all_toList, List.toList_toArray]
  refine List.all_eq_true.mpr fun c hc => ?_
  obtain ⟨l, hl, h⟩ := List.mem_flatten.mp hc
  rw [(List.mem_replicate.mp hl).2] at h
  rw [List.mem_singleton.mp h]
  rfl
def sevens : Str := rep55 5000
theorem sevens_ok : Wd 5000 sevens := rep55_ok 5000
theorem seven_cps : (Str.ofString "7").cps.toList = [55] := by decide +kernel
theorem mul_sevens : binD .Mult (.str (Str.ofString "7")) (.int 5000) = some (.d (.str sevens)) := by
  have l : (Str.ofString "7").length = 1 := by decide +kernel
  have hsl : sizeLine = 16777216 := sizeLine_eq
  show (if (decide ((0 : Int) ≤ 5000) && decide ((5000 : Int) < 2 ^ 62) && decide ((Str.ofString "7").length * (5000 : Int).toNat ≤ sizeLine)) = true then some (RV.d (.str ⟨((List.replicate (5000 : Int).toNat (Str.ofString "7").cps.toList).flatten).toArray⟩)) else none) = _
  rw [if_pos (by rw [l, hsl]; decide), seven_cps]
  exact congrArg (fun z : Str => some (RV.d (.str z))) rfl
def lits : List Str := [Str.ofString "", Str.ofString " ", Str.ofString "-", Str.ofString "--1", Str.ofString "-0", Str.ofString "0", Str.ofString "00", Str.ofString "+1", sevens, Str.ofString "1-"]
theorem lits_ok : ∀ w ∈ lits, Wd 5000 w := by
  intro w h
  simp only [lits, List.mem_cons, List.not_mem_nil, or_false] at h
  rcases h with rfl | rfl | rfl | rfl | rfl | rfl | rfl | rfl | rfl | rfl
  · exact ⟨by decide +kernel, by decide +kernel⟩
  · exact ⟨by decide +kernel, by decide +kernel⟩
  · exact ⟨by decide +kernel, by decide +kernel⟩
  · exact ⟨by decide +kernel, by decide +kernel⟩
  · exact ⟨by decide +kernel, by decide +kernel⟩
  · exact ⟨by decide +kernel, by decide +kernel⟩
  · exact ⟨by decide +kernel, by decide +kernel⟩
  · exact ⟨by decide +kernel, by decide +kernel⟩
  · exact sevens_ok
  · exact ⟨by decide +kernel, by decide +kernel⟩
theorem ev_lits (O : Ora) (s : Ev) : ev O G6 s = .ok (.own (.lst (lits.map .str))) s := by
  have m := mul_sevens
  have hsl : sizeLine = 16777216 := sizeLine_eq
  simp [G6, lits, ev, evs, bind_ok, opt_some, RV.opd, Opd.get, frz, frzL, m, hsl]
theorem some_end (O : Ora) (s s' : Ev) (ys : List Str) (hq : ev O q__law_some_1 s = .ok (.own (.lst (ys.map .str))) s') (l : ys.length = 5) :
    exB O (.cons (.ret (.bin .Add q__law_some_1 G6)) .nil) s = .ok (.ret (.own (.lst ((ys ++ lits).map .str)))) s' := by
  have hg := ev_lits O s'
  have hsl : sizeLine = 16777216 := sizeLine_eq
  have l2 : ys.length + lits.length ≤ 16777216 := by rw [l]; decide
  simp [exB, exS, ev, hq, hg, bind_ok, opt_some, RV.opd, Opd.get, Ob.toD, binD, hsl, l2, retV]
theorem set_step {O : Ora} {i : Nat} {e : GS.CE} {v : RV} {s s1 s2 : Ev} {r : CSs} (h : ev O e s = .ok v s1) (hp : putV i v s1 = .ok () s2) : exB O (.cons (.set i e) r) s = exB O r s2 := by
  show ((((ev O e s).bind fun v s => (putV i v s).bind fun _ s => .ok .nx s) : Rs Fl).bind fun f s => match f with
    | .nx => exB O r s
    | f => .ok f s) = _
  rw [h, bind_ok, hp, bind_ok, bind_ok]
end K01

namespace K01
open PySem GS
theorem digs_ok : PyData.strOk digs = true ∧ digs.length = 10 := by decide +kernel
theorem small_ok : PyData.strOk small = true ∧ small.length = 26 := by decide +kernel
abbrev T6 (n : Nat) (y : Str) (l : List D) (d : Dr) : Ev := [.io d.ob, .val (.str small), .val (.str digs), .val (.int (n : Int)), .val (.str y), .val (.list l), .emp, .emp]
theorem some_all (O : Ora) (n : Nat) (y : Str) (ws ys : List Str) (d d2 d3 d4 d5 : Dr) (l : ys.length = 5)
  (h3 : ev O G3 (T2 d) = .ok (.d (.int (n : Int))) (T2 d2)) (h4 : ev O G4 (T3 n d2) = .ok (.d (.str y)) (T3 n d3)) (h5 : ev O G5 (T4 n y d3) = .ok (.own (.lst (ws.map .str))) (T4 n y d4))
  (h6 : ev O q__law_some_1 (T5 n y (ws.map .str) d4) = .ok (.own (.lst (ys.map .str))) (T6 n y (ws.map .str) d5)) :
  (if decide (([.io d.ob] : List AV).length = 1) && decide (1 ≤ 8) && ioFits [.io d.ob] (some 0) then endF (some 0) (exB O k__law_some (startS 8 [.io d.ob])) else .stuck) = .ok (.own (.lst ((ys ++ lits).map .str))) (some d5.ob) := by
  show endF (some 0) (exB O k__law_some [.io d.ob, .emp, .emp, .emp, .emp, .emp, .emp, .emp]) = _
  rw [k_some]
  show endF (some 0) (exB O (.cons (.set 3 G3) (.cons (.set 4 G4) (.cons (.set 5 G5) (.cons (.ret (.bin .Add q__law_some_1 G6)) .nil)))) (T2 d)) = _
  have e := some_end O _ _ ys h6 l
  rw [set_step h3 (s2 := T3 n d2) rfl, set_step h4 (s2 := T4 n y d3) rfl, set_step h5 (s2 := T5 n y (ws.map .str) d4) rfl, e]
  rfl
theorem r_some (k : Nat) (d : Dr) (b : Int) (h : d.Ok b) (hb : b + 2000000 < 2 ^ 38) :
    ∃ (ws : List Str) (d' : Dr), run prog (k + 5) "_law_some" [.io d.ob] = .ok (.own (.lst (ws.map .str))) (some d'.ob) ∧ ws.length = 15 ∧ (∀ w ∈ ws, Wd 5000 w) ∧ d'.Ok (b + 40) := by
  have hsl : sizeLine = 16777216 := sizeLine_eq
  have hdash : (Str.ofString "-").length = 1 := by decide +kernel
  have odash : PyData.strOk (Str.ofString "-") = true := by decide +kernel
  obtain ⟨p, d2, e2, p0, p1, g2⟩ := r_next (k + 2) d b h (by omega) 6 (by decide) (by decide)
  obtain ⟨n, hn, hsz⟩ : ∃ n : Nat, n ≤ 6 ∧ idxD (.list [.int 1, .int 2, .int 3, .int 4, .int 5, .int 6]) (.int p) = some (.int (n : Int)) := by
    have : p = 0 ∨ p = 1 ∨ p = 2 ∨ p = 3 ∨ p = 4 ∨ p = 5 := by omega
    rcases this with rfl | rfl | rfl | rfl | rfl | rfl
    · exact ⟨1, by omega, rfl⟩
    · exact ⟨2, by omega, rfl⟩
    · exact ⟨3, by omega, rfl⟩
    · exact ⟨4, by omega, rfl⟩
    · exact ⟨5, by omega, rfl⟩
    · exact ⟨6, by omega, rfl⟩
  refine run_ex (fun r => ∃ (ws : List Str) (d' : Dr), r = .ok (.own (.lst (ws.map .str))) (some d'.ob) ∧ ws.length = 15 ∧ (∀ w ∈ ws, Wd 5000 w) ∧ d'.Ok (b + 40)) fs__law_some fun O hΦ hG => ?_
  rw [← hΦ] at e2
  obtain ⟨zs, d3, e3, l3, w3, g3⟩ := comp_draw (O := O) (i := 6) (sz := 3) (S := fun d => T3 n d)
    (e := .idx (.var 2) (.call ("_law_next" : Str) (.cons (.var 0) (.cons (.con (.int (10))) .nil)) [.io 0, .pos 1])) (n := n) g2 (by omega) (fun _ => rfl) (fun _ => rfl)
    (fun d b x h hb => by
      obtain ⟨v, c, d', e, hc, wc, h'⟩ := turn_sign (k := k + 2) digs_ok.1 (by rw [digs_ok.2]; decide) (by rw [digs_ok.2]; decide) d b h hb
      refine ⟨_, d', ?_, wc, h'⟩
      rw [← hΦ, digs_ok.2] at e
      have e' : O.Φ "_law_next" [.io d.ob, .d (.int 10)] = .ok (.d (.int v)) (some d'.ob) := e
      simp [GS.ioFits, GS.startS, GS.slOf, List.range, List.range.loop, GS.exB, GS.exS, GS.ev, GS.evs, GS.evT, GS.evB, GS.evI, GS.bind_ok, GS.opt_some, GS.retV, GS.endF, GS.outOf, GS.RV.opd, GS.Opd.get, GS.getAll, GS.isiD, GS.isFnD, GS.tyD, GS.truD, GS.cmpD, GS.binD, GS.putV, GS.putS, GS.frz, GS.frzL, GS.isIo, GS.biD, GS.D.len, GS.argsOf, GS.frzA, GS.getV, GS.lentOf, GS.outTo, GS.flatR, GS.ownAt, GS.setOb, GS.isOwn, GS.wipeC, GS.wipeS, GS.backS, GS.tgIn, GS.noX, GS.itemsD, GS.Ob.toD, GS.isNonD, GS.ltD, e', hc]) (by omega)
  have e3' : ev O q__law_some_0 (T3 n d2) = _ := e3
  obtain ⟨wj, _⟩ := join_one w3
  obtain ⟨x, d4, e4, wx, g4⟩ := r_letters (k + 1) d3 (b + 1 + n) g3 (by omega) small small_ok.1 (by rw [small_ok.2]; decide) (by rw [small_ok.2]; decide)
  obtain ⟨u, d5, e5, u0, u1, g5⟩ := r_next (k + 2) d4 (b + 1 + n + 11) g4 (by omega) 1200 (by decide) (by decide)
  obtain ⟨v, d6, e6, v0, v1, g6⟩ := r_next (k + 2) d5 (b + 1 + n + 11 + 1) g5 (by omega) 10200 (by decide) (by decide)
  rw [← hΦ] at e4 e5 e6
  have wu := num_word u (by omega)
  have wv := num_word v (by omega)
  have q5 := some_words O n (Str.join (Str.ofString "") zs) x _ _ d3 d4 d5 d6 u v (by have := wj.len; omega) e4 e5 e6 (bi_str u (by omega)) (bi_str v (by omega)) wv.len hsl hdash
  generalize Str.ofString (toString u) = A at q5 wu
  generalize Str.ofString (toString v) = B at q5 wv
  have wy := wj.mono (show zs.length ≤ 6 by omega)
  have hw5 : ∀ w ∈ [x, Str.join (Str.ofString "") zs, Str.ofString "-" ++ Str.join (Str.ofString "") zs, A, Str.ofString "-" ++ B], Wd 12 w := by
    have wd : Wd 1 (Str.ofString "-") := ⟨odash, Nat.le_of_eq hdash⟩
    intro w hw
    simp only [List.mem_cons, List.not_mem_nil, or_false] at hw
    rcases hw with rfl | rfl | rfl | rfl | rfl
    · exact wx.mono (by decide)
    · exact wy.mono (by decide)
    · exact (wd.add wy).mono (by decide)
    · exact wu.mono (by decide)
    · exact (wd.add wv).mono (by decide)
  generalize hws : [x, Str.join (Str.ofString "") zs, Str.ofString "-" ++ Str.join (Str.ofString "") zs, A, Str.ofString "-" ++ B] = ws at q5 hw5
  have lws : ws.length = 5 := by rw [← hws]; rfl
  obtain ⟨ys, d7, e7, l7, w7, g7⟩ := comp_words (O := O) (i := 7) (it := .v (.var 5)) (m := 12) (n := 25) (c := 4) (ws := ws) (S := fun d => T6 n (Str.join (Str.ofString "") zs) (ws.map .str) d) (s0 := T5 n (Str.join (Str.ofString "") zs) (ws.map .str) d6)
    (e := .call ("_law_bent" : Str) (.cons (.var 0) (.cons (.var 7) .nil)) [.io 0, .pos 1]) g6 (by omega) (by omega) (fun _ => rfl) rfl hw5
    (fun d b w hw h hb => by
      obtain ⟨y, d', e, wy, h'⟩ := r_bent k d b h (by omega) 12 (by omega) w hw
      refine ⟨y, d', ?_, wy, h'⟩
      rw [← hΦ] at e
      simp [GS.ioFits, GS.startS, GS.slOf, List.range, List.range.loop, GS.exB, GS.exS, GS.ev, GS.evs, GS.evT, GS.evB, GS.evI, GS.bind_ok, GS.opt_some, GS.retV, GS.endF, GS.outOf, GS.RV.opd, GS.Opd.get, GS.getAll, GS.isiD, GS.isFnD, GS.tyD, GS.truD, GS.cmpD, GS.binD, GS.putV, GS.putS, GS.frz, GS.frzL, GS.isIo, GS.biD, GS.D.len, GS.argsOf, GS.frzA, GS.getV, GS.lentOf, GS.outTo, GS.flatR, GS.ownAt, GS.setOb, GS.isOwn, GS.wipeC, GS.wipeS, GS.backS, GS.tgIn, GS.noX, GS.itemsD, GS.Ob.toD, GS.isNonD, GS.ltD, e]) (by omega)
  have e7' : ev O q__law_some_1 (T5 n (Str.join (Str.ofString "") zs) (ws.map .str) d6) = _ := e7
  refine ⟨ys ++ lits, d7, ?_, by rw [List.length_append, l7, lws]; rfl, ?_, g7.ne, g7.sz, g7.a0, by have := g7.a1; rw [lws] at this; omega, g7.l0, g7.u0, by have := g7.u1; rw [lws] at this; omega⟩
  · exact some_all O n _ ws ys d d2 d3 d6 d7 (by omega) (some_size O d d2 p n e2 hsz hsl) (x_join O _ _ _ zs e3' (meth_join w3 (by omega))) q5 e7'
  · intro w hw
    rcases List.mem_append.mp hw with hw | hw
    · exact (w7 w hw).mono (by decide)
    · exact lits_ok w hw
end K01

namespace K01
open PySem GS
def U1 : GS.CE := .bin .Sub (.call ("_law_next" : Str) (.cons (.var 0) (.cons (.con (.int (41))) .nil)) [.io 0, .pos 1]) (.con (.int (20)))
def U2 : GS.CE := .bin .Sub (.bin .Add (.var 1) (.call ("_law_next" : Str) (.cons (.var 0) (.cons (.con (.int (9))) .nil)) [.io 0, .pos 1])) (.con (.int (1)))
def U3 : GS.CE := .lst (.cons (.var 1) (.cons (.var 2) (.cons (.bin .Sub (.var 1) (.con (.int (1)))) (.cons (.bin .Add (.var 2) (.con (.int (1)))) (.cons (.con (.int (0))) (.cons (.bin .Pow (.con (.int (10))) (.con (.int (30)))) (.cons (.neg (.bin .Pow (.con (.int (10))) (.con (.int (30))))) (.cons (.con (.int (999))) (.cons (.con (.int (1000))) (.cons (.con (.none)) (.cons (.con (.bool true)) (.cons (.con (.bool false)) (.cons (.con (.str ("1" : Str))) (.cons (.lst (.cons (.con (.int (1))) .nil)) (.cons (.tup (.cons (.con (.int (1))) .nil)) (.cons (.dic [] .nil) .nil))))))))))))))))
def U4 : GS.CE := .idx (.var 3) (.call ("_law_next" : Str) (.cons (.var 0) (.cons (.con (.int (16))) .nil)) [.io 0, .pos 1])
def U5 : GS.CE := .lst (.cons (.call ("is_whole" : Str) (.cons (.var 4) (.cons (.var 2) (.cons (.var 1) .nil))) [.pos 0, .pos 2, .pos 1]) (.cons (.call ("is_whole" : Str) (.cons (.var 4) (.cons (.var 1) .nil)) [.pos 0, .pos 1, .dfl (.int (999))]) (.cons (.call ("is_whole" : Str) (.cons (.var 4) (.cons (.var 2) .nil)) [.pos 0, .dfl (.int (0)), .pos 1]) .nil)))
def U6 : GS.CE := .lst (.cons (.call ("_law_is_whole" : Str) (.cons (.var 4) (.cons (.var 1) (.cons (.var 2) .nil))) [.pos 0, .pos 1, .pos 2]) (.cons (.call ("_law_is_whole" : Str) (.cons (.var 4) (.cons (.var 1) (.cons (.con (.int (999))) .nil))) [.pos 0, .pos 1, .pos 2]) (.cons (.call ("_law_is_whole" : Str) (.cons (.var 4) (.cons (.con (.int (0))) (.cons (.var 2) .nil))) [.pos 0, .pos 1, .pos 2]) .nil)))
def U7 : GS.CE := .cmp .Eq (.bi "repr" (.cons (.bin .Add (.var 5) (.lst (.cons (.call ("is_whole" : Str) (.cons (.var 4) .nil) [.pos 0, .dfl (.int (0)), .dfl (.int (999))]) .nil))) .nil)) (.bi "repr" (.cons (.bin .Add (.var 6) (.lst (.cons (.call ("_law_is_whole" : Str) (.cons (.var 4) (.cons (.con (.int (0))) (.cons (.con (.int (999))) .nil))) [.pos 0, .pos 1, .pos 2]) .nil))) .nil))
theorem k_wholes : k__law_wholes_right = (.cons (.set 1 U1) (.cons (.set 2 U2) (.cons (.set 3 U3) (.cons (.set 4 U4) (.cons (.set 5 U5) (.cons (.set 6 U6) (.cons (.ret U7) .nil))))))) := rfl
theorem repr4 (a b c d : Bool) : ∃ z : Str, biD "repr" [.list [.bool a, .bool b, .bool c, .bool d]] = some (.d (.str z)) := by
  have h : (if (PyData.list [.bool a, .bool b, .bool c, .bool d]).showable && plainD (PyData.list [.bool a, .bool b, .bool c, .bool d]) && decide ((PyData.list [.bool a, .bool b, .bool c, .bool d]).depth ≤ 60) && decide ((PyData.list [.bool a, .bool b, .bool c, .bool d]).shown.length ≤ sizeLine) && PyData.strOk (PyData.list [.bool a, .bool b, .bool c, .bool d]).shown then true else false) = true := by
    rw [sizeLine_eq]
    cases a <;> cases b <;> cases c <;> cases d <;> decide +kernel
  refine ⟨(PyData.list [.bool a, .bool b, .bool c, .bool d]).shown, ?_⟩
  show (if _ then _ else _) = _
  split at h
  · rename_i q; rw [if_pos q]
  · cases h
theorem repr2 (a b : Bool) : ∃ z : Str, biD "repr" [.list [.bool a, .bool b]] = some (.d (.str z)) := by
  have h : (if (PyData.list [.bool a, .bool b]).showable && plainD (PyData.list [.bool a, .bool b]) && decide ((PyData.list [.bool a, .bool b]).depth ≤ 60) && decide ((PyData.list [.bool a, .bool b]).shown.length ≤ sizeLine) && PyData.strOk (PyData.list [.bool a, .bool b]).shown then true else false) = true := by
    rw [sizeLine_eq]
    cases a <;> cases b <;> decide +kernel
  refine ⟨(PyData.list [.bool a, .bool b]).shown, ?_⟩
  show (if _ then _ else _) = _
  split at h
  · rename_i q; rw [if_pos q]
  · cases h
theorem str_same (z : Str) : eqD (.str z) (.str z) = some true := by rw [str_beq, decide_eq_true rfl]
end K01

namespace K01
open PySem GS
abbrev V0 (d : Dr) : Ev := [.io d.ob, .emp, .emp, .emp, .emp, .emp, .emp]
abbrev V1 (a : Int) (d : Dr) : Ev := [.io d.ob, .val (.int a), .emp, .emp, .emp, .emp, .emp]
abbrev V2 (a h : Int) (d : Dr) : Ev := [.io d.ob, .val (.int a), .val (.int h), .emp, .emp, .emp, .emp]
abbrev V3 (a h : Int) (l : List D) (d : Dr) : Ev := [.io d.ob, .val (.int a), .val (.int h), .own (.lst l), .emp, .emp, .emp]
abbrev V4 (a h : Int) (l : List D) (x : D) (d : Dr) : Ev := [.io d.ob, .val (.int a), .val (.int h), .own (.lst l), .val x, .emp, .emp]
abbrev V5 (a h : Int) (l : List D) (x : D) (p : List D) (d : Dr) : Ev := [.io d.ob, .val (.int a), .val (.int h), .own (.lst l), .val x, .own (.lst p), .emp]
abbrev V6 (a h : Int) (l : List D) (x : D) (p q : List D) (d : Dr) : Ev := [.io d.ob, .val (.int a), .val (.int h), .own (.lst l), .val x, .own (.lst p), .own (.lst q)]
def things (a h : Int) : List D := [.int a, .int h, .int (a - 1), .int (h + 1), .int 0, .int (10 ^ 30), .int (-(10 ^ 30)), .int 999, .int 1000, .none, .bool true, .bool false, .str (Str.ofString "1"), .list [.int 1], .tuple [.int 1], .dict []]
theorem w_1 (O : Ora) (d d1 : Dr) (v : Int) (e : O.Φ "_law_next" [.io d.ob, .d (.int 41)] = .ok (.d (.int v)) (some d1.ob)) : ev O U1 (V0 d) = .ok (.d (.int (v - 20))) (V0 d1) := by
  simp [GS.ioFits, GS.startS, GS.slOf, List.range, List.range.loop, GS.exB, GS.exS, GS.ev, GS.evs, GS.evT, GS.evB, GS.evI, GS.bind_ok, GS.opt_some, GS.retV, GS.endF, GS.outOf, GS.RV.opd, GS.Opd.get, GS.getAll, GS.isiD, GS.isFnD, GS.tyD, GS.truD, GS.cmpD, GS.binD, GS.putV, GS.putS, GS.frz, GS.frzL, GS.isIo, GS.biD, GS.D.len, GS.argsOf, GS.frzA, GS.getV, GS.lentOf, GS.outTo, GS.flatR, GS.ownAt, GS.setOb, GS.isOwn, GS.wipeC, GS.wipeS, GS.backS, GS.tgIn, GS.noX, GS.itemsD, GS.Ob.toD, GS.isNonD, GS.ltD, U1, e]
theorem w_2 (O : Ora) (d d1 : Dr) (a v : Int) (e : O.Φ "_law_next" [.io d.ob, .d (.int 9)] = .ok (.d (.int v)) (some d1.ob)) : ev O U2 (V1 a d) = .ok (.d (.int (a + v - 1))) (V1 a d1) := by
  simp [GS.ioFits, GS.startS, GS.slOf, List.range, List.range.loop, GS.exB, GS.exS, GS.ev, GS.evs, GS.evT, GS.evB, GS.evI, GS.bind_ok, GS.opt_some, GS.retV, GS.endF, GS.outOf, GS.RV.opd, GS.Opd.get, GS.getAll, GS.isiD, GS.isFnD, GS.tyD, GS.truD, GS.cmpD, GS.binD, GS.putV, GS.putS, GS.frz, GS.frzL, GS.isIo, GS.biD, GS.D.len, GS.argsOf, GS.frzA, GS.getV, GS.lentOf, GS.outTo, GS.flatR, GS.ownAt, GS.setOb, GS.isOwn, GS.wipeC, GS.wipeS, GS.backS, GS.tgIn, GS.noX, GS.itemsD, GS.Ob.toD, GS.isNonD, GS.ltD, U2, e]
theorem w_3 (O : Ora) (d : Dr) (a h : Int) : ev O U3 (V2 a h d) = .ok (.own (.lst (things a h))) (V2 a h d) := by
  have hsl : sizeLine = 16777216 := sizeLine_eq
  have hm : mergeD [] [] = [] := rfl
  simp [GS.ioFits, GS.startS, GS.slOf, List.range, List.range.loop, GS.exB, GS.exS, GS.ev, GS.evs, GS.evT, GS.evB, GS.evI, GS.bind_ok, GS.opt_some, GS.retV, GS.endF, GS.outOf, GS.RV.opd, GS.Opd.get, GS.getAll, GS.isiD, GS.isFnD, GS.tyD, GS.truD, GS.cmpD, GS.binD, GS.putV, GS.putS, GS.frz, GS.frzL, GS.isIo, GS.biD, GS.D.len, GS.argsOf, GS.frzA, GS.getV, GS.lentOf, GS.outTo, GS.flatR, GS.ownAt, GS.setOb, GS.isOwn, GS.wipeC, GS.wipeS, GS.backS, GS.tgIn, GS.noX, GS.itemsD, GS.Ob.toD, GS.isNonD, GS.ltD, U3, things, hsl, hm]
theorem w_4 (O : Ora) (d d1 : Dr) (a h v : Int) (l : List D) (x : D) (e : O.Φ "_law_next" [.io d.ob, .d (.int 16)] = .ok (.d (.int v)) (some d1.ob)) (hx : idxD (.list l) (.int v) = some x) : ev O U4 (V3 a h l d) = .ok (.d x) (V3 a h l d1) := by
  simp [GS.ioFits, GS.startS, GS.slOf, List.range, List.range.loop, GS.exB, GS.exS, GS.ev, GS.evs, GS.evT, GS.evB, GS.evI, GS.bind_ok, GS.opt_some, GS.retV, GS.endF, GS.outOf, GS.RV.opd, GS.Opd.get, GS.getAll, GS.isiD, GS.isFnD, GS.tyD, GS.truD, GS.cmpD, GS.binD, GS.putV, GS.putS, GS.frz, GS.frzL, GS.isIo, GS.biD, GS.D.len, GS.argsOf, GS.frzA, GS.getV, GS.lentOf, GS.outTo, GS.flatR, GS.ownAt, GS.setOb, GS.isOwn, GS.wipeC, GS.wipeS, GS.backS, GS.tgIn, GS.noX, GS.itemsD, GS.Ob.toD, GS.isNonD, GS.ltD, U4, e, hx]
theorem w_5 (O : Ora) (d : Dr) (a h : Int) (l : List D) (x : D) (b1 b2 b3 : Bool) (e1 : O.Φ "is_whole" [.d x, .d (.int a), .d (.int h)] = .ok (.d (.bool b1)) none) (e2 : O.Φ "is_whole" [.d x, .d (.int a), .d (.int 999)] = .ok (.d (.bool b2)) none) (e3 : O.Φ "is_whole" [.d x, .d (.int 0), .d (.int h)] = .ok (.d (.bool b3)) none) :
    ev O U5 (V4 a h l x d) = .ok (.own (.lst [.bool b1, .bool b2, .bool b3])) (V4 a h l x d) := by
  have hsl : sizeLine = 16777216 := sizeLine_eq
  simp [GS.ioFits, GS.startS, GS.slOf, List.range, List.range.loop, GS.exB, GS.exS, GS.ev, GS.evs, GS.evT, GS.evB, GS.evI, GS.bind_ok, GS.opt_some, GS.retV, GS.endF, GS.outOf, GS.RV.opd, GS.Opd.get, GS.getAll, GS.isiD, GS.isFnD, GS.tyD, GS.truD, GS.cmpD, GS.binD, GS.putV, GS.putS, GS.frz, GS.frzL, GS.isIo, GS.biD, GS.D.len, GS.argsOf, GS.frzA, GS.getV, GS.lentOf, GS.outTo, GS.flatR, GS.ownAt, GS.setOb, GS.isOwn, GS.wipeC, GS.wipeS, GS.backS, GS.tgIn, GS.noX, GS.itemsD, GS.Ob.toD, GS.isNonD, GS.ltD, U5, e1, e2, e3, hsl]
theorem w_6 (O : Ora) (d : Dr) (a h : Int) (l p : List D) (x : D) (b1 b2 b3 : Bool) (e1 : O.Φ "_law_is_whole" [.d x, .d (.int a), .d (.int h)] = .ok (.d (.bool b1)) none) (e2 : O.Φ "_law_is_whole" [.d x, .d (.int a), .d (.int 999)] = .ok (.d (.bool b2)) none) (e3 : O.Φ "_law_is_whole" [.d x, .d (.int 0), .d (.int h)] = .ok (.d (.bool b3)) none) :
    ev O U6 (V5 a h l x p d) = .ok (.own (.lst [.bool b1, .bool b2, .bool b3])) (V5 a h l x p d) := by
  have hsl : sizeLine = 16777216 := sizeLine_eq
  simp [GS.ioFits, GS.startS, GS.slOf, List.range, List.range.loop, GS.exB, GS.exS, GS.ev, GS.evs, GS.evT, GS.evB, GS.evI, GS.bind_ok, GS.opt_some, GS.retV, GS.endF, GS.outOf, GS.RV.opd, GS.Opd.get, GS.getAll, GS.isiD, GS.isFnD, GS.tyD, GS.truD, GS.cmpD, GS.binD, GS.putV, GS.putS, GS.frz, GS.frzL, GS.isIo, GS.biD, GS.D.len, GS.argsOf, GS.frzA, GS.getV, GS.lentOf, GS.outTo, GS.flatR, GS.ownAt, GS.setOb, GS.isOwn, GS.wipeC, GS.wipeS, GS.backS, GS.tgIn, GS.noX, GS.itemsD, GS.Ob.toD, GS.isNonD, GS.ltD, U6, e1, e2, e3, hsl]
theorem w_7 (O : Ora) (d : Dr) (a h : Int) (l : List D) (x : D) (b1 b2 b3 b4 : Bool) (z : Str) (e1 : O.Φ "is_whole" [.d x, .d (.int 0), .d (.int 999)] = .ok (.d (.bool b4)) none) (e2 : O.Φ "_law_is_whole" [.d x, .d (.int 0), .d (.int 999)] = .ok (.d (.bool b4)) none)
    (hz : biD "repr" [.list [.bool b1, .bool b2, .bool b3, .bool b4]] = some (.d (.str z))) : ∃ s, ev O U7 (V6 a h l x [.bool b1, .bool b2, .bool b3] [.bool b1, .bool b2, .bool b3] d) = .ok (.d (.bool true)) s ∧ s[0]? = some (.io d.ob) := by
  have hsl : sizeLine = 16777216 := sizeLine_eq
  have hs := str_same z
  refine ⟨V6 a h l x [.bool b1, .bool b2, .bool b3] [.bool b1, .bool b2, .bool b3] d, ?_, rfl⟩
  simp [U7, ev, evs, bind_ok, opt_some, argsOf, RV.opd, Opd.get, getAll, frz, frzL, frzA, putV, putS, getV, lentOf, outTo, flatR, ownAt, setOb, isIo, isOwn, e1, e2, hz, hs, binD, hsl, cmpD, Ob.toD]
end K01

namespace K01
open PySem GS
theorem things_at (a h v : Int) (v0 : 0 ≤ v) (v1 : v < 16) : ∃ x, idxD (.list (things a h)) (.int v) = some x ∧ isFnD x = false := by
  obtain ⟨j, rfl⟩ : ∃ j : Nat, (j : Int) = v := ⟨_, Int.toNat_of_nonneg v0⟩
  have hl : j < (things a h).length := by show j < 16; omega
  refine ⟨(things a h)[j], L2.atI_nat (List.getElem?_eq_getElem hl), ?_⟩
  have hall : (things a h).all (fun x => !isFnD x) = true := rfl
  have := List.all_eq_true.mp hall _ (List.getElem_mem hl)
  simpa using this
theorem r_wholes (k : Nat) (d : Dr) (b : Int) (h : d.Ok b) (hb : b + 10 < 2 ^ 38) :
    ∃ (d' : Dr), run prog (k + 3) "_law_wholes_right" [.io d.ob] = .ok (.d (.bool true)) (some d'.ob) ∧ d'.Ok (b + 3) := by
  obtain ⟨u, d1, e1, u0, u1, g1⟩ := r_next k d b h (by omega) 41 (by decide) (by decide)
  obtain ⟨v, d2, e2, v0, v1, g2⟩ := r_next k d1 (b + 1) g1 (by omega) 9 (by decide) (by decide)
  obtain ⟨p, d3, e3, p0, p1, g3⟩ := r_next k d2 (b + 1 + 1) g2 (by omega) 16 (by decide) (by decide)
  obtain ⟨x, hx, fx⟩ := things_at (u - 20) (u - 20 + v - 1) p p0 p1
  refine ⟨d3, ?_, (show b + 1 + 1 + 1 = b + 3 by omega) ▸ g3⟩
  refine run_ex (fun r => r = .ok (.d (.bool true)) (some d3.ob)) fs__law_wholes_right fun O hΦ hG => ?_
  have A := fun lo hi => r_is_whole (k + 1) x fx lo hi
  have B := fun lo hi => r_law_is_whole (k + 1) x fx lo hi
  rw [← hΦ] at e1 e2 e3
  have A' : ∀ lo hi, O.Φ "is_whole" [.d x, .d (.int lo), .d (.int hi)] = .ok (.d (.bool (wholeD x lo hi))) none := fun lo hi => by rw [hΦ]; exact A lo hi
  have B' : ∀ lo hi, O.Φ "_law_is_whole" [.d x, .d (.int lo), .d (.int hi)] = .ok (.d (.bool (wholeD x lo hi))) none := fun lo hi => by rw [hΦ]; exact B lo hi
  obtain ⟨z, hz⟩ := repr4 (wholeD x (u - 20) (u - 20 + v - 1)) (wholeD x (u - 20) 999) (wholeD x 0 (u - 20 + v - 1)) (wholeD x 0 999)
  have q1 := w_1 O d d1 u e1
  have q2 := w_2 O d1 d2 (u - 20) v e2
  have q3 := w_3 O d2 (u - 20) (u - 20 + v - 1)
  have q4 := w_4 O d2 d3 (u - 20) (u - 20 + v - 1) p _ x e3 hx
  have q5 := w_5 O d3 (u - 20) (u - 20 + v - 1) (things (u - 20) (u - 20 + v - 1)) x _ _ _ (A' _ _) (A' _ _) (A' _ _)
  have q6 := w_6 O d3 (u - 20) (u - 20 + v - 1) (things (u - 20) (u - 20 + v - 1)) [.bool (wholeD x (u - 20) (u - 20 + v - 1)), .bool (wholeD x (u - 20) 999), .bool (wholeD x 0 (u - 20 + v - 1))] x _ _ _ (B' _ _) (B' _ _) (B' _ _)
  obtain ⟨s, q7, hs⟩ := w_7 O d3 (u - 20) (u - 20 + v - 1) (things (u - 20) (u - 20 + v - 1)) x _ _ _ _ z (A' _ _) (B' _ _) hz
  show endF (some 0) (exB O k__law_wholes_right (V0 d)) = _
  rw [k_wholes, set_step q1 (s2 := V1 (u - 20) d1) rfl, set_step q2 (s2 := V2 (u - 20) (u - 20 + v - 1) d2) rfl, set_step q3 (s2 := V3 (u - 20) (u - 20 + v - 1) _ d2) rfl, set_step q4 (s2 := V4 (u - 20) (u - 20 + v - 1) _ x d3) rfl,
    set_step q5 (s2 := V5 (u - 20) (u - 20 + v - 1) _ x _ d3) rfl, set_step q6 (s2 := V6 (u - 20) (u - 20 + v - 1) _ x _ _ d3) rfl]
  show endF (some 0) (((ev O U7 _).bind retV).bind _) = _
  rw [q7, bind_ok]
  show FR.ok (.d (.bool true)) (ownAt s 0) = _
  unfold ownAt
  rw [hs]
end K01

namespace K01
open PySem GS
/-- the law's slots: 0 cells 1 draw 2 turn 3 odd thing 4 words 5 name 6 top 7 low 8 word -/
abbrev E0 (s0 : Sl) (d : Dr) (s2 : Sl) (x : D) (ws : Sl) (s5 s6 s7 s8 : Sl) : Ev := [s0, .own d.ob, s2, .val x, ws, s5, s6, s7, s8]
def n0B : CSs := .cons (.ife (.cmp .NotEq (.bi "repr" (.cons (.lst (.cons (.call ("is_name" : Str) (.cons (.var 5) .nil) [.pos 0]) (.cons (.call ("is_name" : Str) (.cons (.var 5) .nil) [.pos 0]) .nil))) .nil)) (.bi "repr" (.cons (.rep (.lst (.cons (.call ("_law_is_name" : Str) (.cons (.var 5) .nil) [.pos 0]) .nil)) (.con (.int (2)))) .nil))) (.cons (.ret (.con (.bool false))) .nil) .nil) .nil
theorem k_law0 : q_law_0 = .for_ (.nm 5) (.v (.bin .Add (.var 4) (.lst (.cons (.var 3) .nil)))) n0B := rfl
theorem n0_one (O : Ora) (s0 : Sl) (d : Dr) (s2 : Sl) (x : D) (ws : Sl) (y : D) (s6 s7 s8 : Sl) (b : Bool) (z : Str) (e1 : O.Φ "is_name" [.d y] = .ok (.d (.bool b)) none) (e2 : O.Φ "_law_is_name" [.d y] = .ok (.d (.bool b)) none) (hz : biD "repr" [.list [.bool b, .bool b]] = some (.d (.str z))) :
    exB O n0B (E0 s0 d s2 x ws (.val y) s6 s7 s8) = .ok .nx (E0 s0 d s2 x ws (.val y) s6 s7 s8) := by
  have hsl : sizeLine = 16777216 := sizeLine_eq
  have hs := str_same z
  have hr : repD [.bool b] 2 = [.bool b, .bool b] := rfl
  simp [n0B, exB, exS, evB, ev, evs, bind_ok, opt_some, argsOf, RV.opd, Opd.get, getAll, frz, frzL, frzA, putV, putS, getV, lentOf, outTo, flatR, ownAt, setOb, isIo, isOwn, e1, e2, hz, hs, hsl, cmpD, Ob.toD, hr, truD]
end K01

namespace K01
open PySem GS
theorem put_emp {i : Nat} {x : D} {s : Ev} (hi : i < s.length) (h : isIo s[i]? = false) : bindT (.nm i) x s = .ok () (s.set i (.val x)) := by
  show putS i (.val x) s = _
  unfold putS
  rw [h, decide_eq_true hi]
  rfl
theorem law0 (O : Ora) (s0 : Sl) (d : Dr) (s2 : Sl) (x : D) (ws : List D) (s5 s6 s7 s8 : Sl) (h5 : isOwn (some s5) = false) (hl : ws.length ≤ 1000)
    (H : ∀ y ∈ ws ++ [x], ∃ b, O.Φ "is_name" [.d y] = .ok (.d (.bool b)) none ∧ O.Φ "_law_is_name" [.d y] = .ok (.d (.bool b)) none) :
    ∃ s5', isOwn (some s5') = false ∧ exS O q_law_0 (E0 s0 d s2 x (.own (.lst ws)) s5 s6 s7 s8) = .ok .nx (E0 s0 d s2 x (.own (.lst ws)) s5' s6 s7 s8) := by
  have hsl : sizeLine = 16777216 := sizeLine_eq
  have l : ws.length + 1 ≤ 16777216 := by omega
  have e1 : evI O (.v (.bin .Add (.var 4) (.lst (.cons (.var 3) .nil)))) (E0 s0 d s2 x (.own (.lst ws)) s5 s6 s7 s8) = .ok (ws ++ [x]) (E0 s0 d s2 x (.own (.lst ws)) s5 s6 s7 s8) := by
    simp [evI, ev, evs, bind_ok, opt_some, RV.opd, Opd.get, getAll, frz, frzL, binD, Ob.toD, hsl, l, itemsD]
  obtain ⟨s', e2, t, ht, rfl⟩ := forL_inv (bind := bindT (.nm 5)) (body := fun s => exB O n0B s) (fun _ s => ∃ t, isOwn (some t) = false ∧ s = E0 s0 d s2 x (.own (.lst ws)) t s6 s7 s8) (ws ++ [x]) 0 (E0 s0 d s2 x (.own (.lst ws)) s5 s6 s7 s8) ⟨s5, h5, rfl⟩ (by
    rintro i y hy s ⟨t, ht, rfl⟩
    obtain ⟨b, q1, q2⟩ := H y (List.mem_of_getElem? hy)
    obtain ⟨z, hz⟩ := repr2 b b
    refine ⟨_, .nx, _, put_emp (show 5 < 9 by decide) ?_, n0_one O s0 d s2 x (.own (.lst ws)) y s6 s7 s8 b z q1 q2 hz, .inl rfl, .val y, rfl, rfl⟩
    cases t with
    | own o => cases ht
    | io o => cases ht
    | _ => rfl)
  refine ⟨t, ht, ?_⟩
  rw [k_law0]
  show ((evI O (.v (.bin .Add (.var 4) (.lst (.cons (.var 3) .nil)))) (E0 s0 d s2 x (.own (.lst ws)) s5 s6 s7 s8)).bind fun xs s => forL (bindT (.nm 5)) (fun s => exB O n0B s) xs s) = _
  rw [e1, bind_ok]
  exact e2
end K01

namespace K01
open PySem GS
def n1B : CSs := .cons (.ife (.not (.call ("_law_same" : Str) (.cons (.call ("number_in" : Str) (.cons (.var 8) (.cons (.var 6) (.cons (.var 7) .nil))) [.pos 0, .pos 2, .pos 1]) (.cons (.call ("_law_read" : Str) (.cons (.var 8) (.cons (.var 7) (.cons (.var 6) .nil))) [.pos 0, .pos 1, .pos 2]) .nil)) [.pos 0, .pos 1])) (.cons (.ret (.con (.bool false))) .nil) .nil) (.cons (.ife (.not (.call ("_law_same" : Str) (.cons (.call ("number_in" : Str) (.cons (.var 8) .nil) [.pos 0, .dfl (.int (0)), .dfl (.int (999))]) (.cons (.call ("_law_read" : Str) (.cons (.var 8) (.cons (.con (.int (0))) (.cons (.con (.int (999))) .nil))) [.pos 0, .pos 1, .pos 2]) .nil)) [.pos 0, .pos 1])) (.cons (.ret (.con (.bool false))) .nil) .nil) (.cons (.ife (.not (.call ("_law_same" : Str) (.cons (.call ("number_in" : Str) (.cons (.var 8) (.cons (.var 7) .nil)) [.pos 0, .pos 1, .dfl (.int (999))]) (.cons (.call ("_law_read" : Str) (.cons (.var 8) (.cons (.var 7) (.cons (.con (.int (999))) .nil))) [.pos 0, .pos 1, .pos 2]) .nil)) [.pos 0, .pos 1])) (.cons (.ret (.con (.bool false))) .nil) .nil) .nil))
def n1I : CI := .v (.bin .Add (.var 4) (.lst (.cons (.bi "str" (.cons (.var 6) .nil)) (.cons (.bi "str" (.cons (.bin .Add (.var 6) (.con (.int (1)))) .nil)) (.cons (.bi "str" (.cons (.var 7) .nil)) (.cons (.bi "str" (.cons (.bin .Sub (.var 7) (.con (.int (1)))) .nil)) (.cons (.con (.str ("999" : Str))) (.cons (.con (.str ("1000" : Str))) .nil))))))))
theorem k_law1 : q_law_1 = .for_ (.nm 8) n1I n1B := rfl
theorem n1_one (O : Ora) (s0 : Sl) (d : Dr) (s2 : Sl) (x : D) (ws s5 : Sl) (tp lw : Int) (w : Str) (A B C : D)
    (e1 : O.Φ "number_in" [.d (.str w), .d (.int lw), .d (.int tp)] = .ok (.d A) none) (e2 : O.Φ "_law_read" [.d (.str w), .d (.int lw), .d (.int tp)] = .ok (.d A) none) (e3 : O.Φ "_law_same" [.d A, .d A] = .ok (.d (.bool true)) none)
    (f1 : O.Φ "number_in" [.d (.str w), .d (.int 0), .d (.int 999)] = .ok (.d B) none) (f2 : O.Φ "_law_read" [.d (.str w), .d (.int 0), .d (.int 999)] = .ok (.d B) none) (f3 : O.Φ "_law_same" [.d B, .d B] = .ok (.d (.bool true)) none)
    (g1 : O.Φ "number_in" [.d (.str w), .d (.int lw), .d (.int 999)] = .ok (.d C) none) (g2 : O.Φ "_law_read" [.d (.str w), .d (.int lw), .d (.int 999)] = .ok (.d C) none) (g3 : O.Φ "_law_same" [.d C, .d C] = .ok (.d (.bool true)) none) :
    exB O n1B (E0 s0 d s2 x ws s5 (.val (.int tp)) (.val (.int lw)) (.val (.str w))) = .ok .nx (E0 s0 d s2 x ws s5 (.val (.int tp)) (.val (.int lw)) (.val (.str w))) := by
  simp [n1B, exB, exS, evB, ev, evs, bind_ok, opt_some, argsOf, RV.opd, Opd.get, getAll, frz, frzL, frzA, putV, putS, getV, lentOf, outTo, flatR, ownAt, setOb, isIo, isOwn, e1, e2, e3, f1, f2, f3, g1, g2, g3, Ob.toD, truD]
end K01

namespace K01
open PySem GS
def six (A B C D : Str) : List Str := [A, B, C, D, Str.ofString "999", Str.ofString "1000"]
theorem n1_it (O : Ora) (s0 : Sl) (d : Dr) (s2 : Sl) (x : D) (ws : List Str) (s5 : Sl) (tp lw : Int) (s8 : Sl) (A B C E : Str) (hl : ws.length ≤ 1000)
    (a : biD "str" [.int tp] = some (.d (.str A))) (b : biD "str" [.int (tp + 1)] = some (.d (.str B))) (c : biD "str" [.int lw] = some (.d (.str C))) (e : biD "str" [.int (lw - 1)] = some (.d (.str E))) :
    evI O n1I (E0 s0 d s2 x (.own (.lst (ws.map .str))) s5 (.val (.int tp)) (.val (.int lw)) s8) = .ok ((ws ++ six A B C E).map .str) (E0 s0 d s2 x (.own (.lst (ws.map .str))) s5 (.val (.int tp)) (.val (.int lw)) s8) := by
  have hsl : sizeLine = 16777216 := sizeLine_eq
  have l : ws.length + 6 ≤ 16777216 := by omega
  simp [n1I, six, evI, ev, evs, bind_ok, opt_some, RV.opd, Opd.get, getAll, frz, frzL, binD, Ob.toD, hsl, l, itemsD, a, b, c, e]
theorem law1 (O : Ora) (s0 : Sl) (d : Dr) (s2 : Sl) (x : D) (ws : List Str) (s5 : Sl) (tp lw : Int) (s8 : Sl) (A B C E : Str) (hl : ws.length ≤ 1000) (h8 : isOwn (some s8) = false)
    (a : biD "str" [.int tp] = some (.d (.str A))) (b : biD "str" [.int (tp + 1)] = some (.d (.str B))) (c : biD "str" [.int lw] = some (.d (.str C))) (e : biD "str" [.int (lw - 1)] = some (.d (.str E)))
    (H : ∀ w ∈ ws ++ six A B C E, ∀ lo hi, O.Φ "number_in" [.d (.str w), .d (.int lo), .d (.int hi)] = .ok (.d (numD w lo hi)) none ∧ O.Φ "_law_read" [.d (.str w), .d (.int lo), .d (.int hi)] = .ok (.d (numD w lo hi)) none ∧ O.Φ "_law_same" [.d (numD w lo hi), .d (numD w lo hi)] = .ok (.d (.bool true)) none) :
    ∃ s8', isOwn (some s8') = false ∧ exS O q_law_1 (E0 s0 d s2 x (.own (.lst (ws.map .str))) s5 (.val (.int tp)) (.val (.int lw)) s8) = .ok .nx (E0 s0 d s2 x (.own (.lst (ws.map .str))) s5 (.val (.int tp)) (.val (.int lw)) s8') := by
  have e1 := n1_it O s0 d s2 x ws s5 tp lw s8 A B C E hl a b c e
  obtain ⟨s', e2, t, ht, rfl⟩ := forL_inv (bind := bindT (.nm 8)) (body := fun s => exB O n1B s) (fun _ s => ∃ t, isOwn (some t) = false ∧ s = E0 s0 d s2 x (.own (.lst (ws.map .str))) s5 (.val (.int tp)) (.val (.int lw)) t) ((ws ++ six A B C E).map .str) 0 (E0 s0 d s2 x (.own (.lst (ws.map .str))) s5 (.val (.int tp)) (.val (.int lw)) s8) ⟨s8, h8, rfl⟩ (by
    rintro i y hy s ⟨t, ht, rfl⟩
    obtain ⟨w, hw, rfl⟩ := List.mem_map.mp (List.mem_of_getElem? hy)
    obtain ⟨q1, q2, q3⟩ := H w hw lw tp
    obtain ⟨p1, p2, p3⟩ := H w hw 0 999
    obtain ⟨r1, r2, r3⟩ := H w hw lw 999
    refine ⟨_, .nx, _, put_emp (show 8 < 9 by decide) ?_, n1_one O s0 d s2 x _ s5 tp lw w _ _ _ q1 q2 q3 p1 p2 p3 r1 r2 r3, .inl rfl, .val (.str w), rfl, rfl⟩
    cases t with
    | own o => cases ht
    | io o => cases ht
    | _ => rfl)
  refine ⟨t, ht, ?_⟩
  rw [k_law1]
  show ((evI O n1I _).bind fun xs s => forL (bindT (.nm 8)) (fun s => exB O n1B s) xs s) = _
  rw [e1, bind_ok]
  exact e2
end K01

namespace K01
open PySem GS
def n2I : CI := .rng1 (.bin .Add (.bi "min" (.cons (.con (.int (40))) (.cons (.bi "len" (.cons (.var 0) .nil)) .nil))) (.con (.int (1))))
def X3 : GS.CE := .idx (.lst (.cons (.con (.none)) (.cons (.con (.int (5))) (.cons (.con (.bool true)) (.cons (.lst (.cons (.con (.str ("a" : Str))) .nil)) (.cons (.tup (.cons (.con (.str ("a" : Str))) .nil)) (.cons (.dic [] .nil) (.cons (.con (.int (7))) (.cons (.tup (.cons (.con (.str ("1" : Str))) .nil)) .nil))))))))) (.call ("_law_next" : Str) (.cons (.var 1) (.cons (.con (.int (8))) .nil)) [.io 0, .pos 1])
def X4 : GS.CE := .call ("_law_some" : Str) (.cons (.var 1) .nil) [.io 0]
def X6 : GS.CE := .idx (.lst (.cons (.call ("_law_next" : Str) (.cons (.var 1) (.cons (.con (.int (100000))) .nil)) [.io 0, .pos 1]) (.cons (.con (.int (999))) (.cons (.con (.int (99999))) (.cons (.con (.int (0))) (.cons (.call ("_law_next" : Str) (.cons (.var 1) (.cons (.con (.int (30))) .nil)) [.io 0, .pos 1]) (.cons (.con (.int (9999))) .nil))))))) (.call ("_law_next" : Str) (.cons (.var 1) (.cons (.con (.int (6))) .nil)) [.io 0, .pos 1])
def X7 : GS.CE := .idx (.lst (.cons (.con (.int (0))) (.cons (.bin .Sub (.con (.int (0))) (.call ("_law_next" : Str) (.cons (.var 1) (.cons (.con (.int (10000))) .nil)) [.io 0, .pos 1])) (.cons (.neg (.con (.int (9999)))) (.cons (.var 6) (.cons (.neg (.con (.int (1)))) .nil)))))) (.call ("_law_next" : Str) (.cons (.var 1) (.cons (.con (.int (5))) .nil)) [.io 0, .pos 1])
def n2B : CSs := .cons (.set 3 X3) (.cons (.set 4 X4) (.cons q_law_0 (.cons (.set 6 X6) (.cons (.set 7 X7) (.cons q_law_1 (.cons (.ife (.not (.call ("_law_wholes_right" : Str) (.cons (.var 1) .nil) [.io 0])) (.cons (.ret (.con (.bool false))) .nil) .nil) .nil))))))
theorem k_law2 : q_law_2 = .for_ (.nm 2) n2I n2B := rfl
abbrev E1 (c : D) (d : Dr) (s2 s3 s4 s5 s6 s7 s8 : Sl) : Ev := [.val c, .own d.ob, s2, s3, s4, s5, s6, s7, s8]
def odd : List D := [.none, .int 5, .bool true, .list [.str (Str.ofString "a")], .tuple [.str (Str.ofString "a")], .dict [], .int 7, .tuple [.str (Str.ofString "1")]]
theorem v_3 (O : Ora) (c : D) (d d1 : Dr) (s2 s3 s4 s5 s6 s7 s8 : Sl) (v : Int) (x : D) (e : O.Φ "_law_next" [.io d.ob, .d (.int 8)] = .ok (.d (.int v)) (some d1.ob)) (hx : idxD (.list odd) (.int v) = some x) :
    ev O X3 (E1 c d s2 s3 s4 s5 s6 s7 s8) = .ok (.d x) (E1 c d1 s2 s3 s4 s5 s6 s7 s8) := by
  have hsl : sizeLine = 16777216 := sizeLine_eq
  have hm : mergeD [] [] = [] := rfl
  unfold odd at hx
  simp [GS.ioFits, GS.startS, GS.slOf, List.range, List.range.loop, GS.exB, GS.exS, GS.ev, GS.evs, GS.evT, GS.evB, GS.evI, GS.bind_ok, GS.opt_some, GS.retV, GS.endF, GS.outOf, GS.RV.opd, GS.Opd.get, GS.getAll, GS.isiD, GS.isFnD, GS.tyD, GS.truD, GS.cmpD, GS.binD, GS.putV, GS.putS, GS.frz, GS.frzL, GS.isIo, GS.biD, GS.D.len, GS.argsOf, GS.frzA, GS.getV, GS.lentOf, GS.outTo, GS.flatR, GS.ownAt, GS.setOb, GS.isOwn, GS.wipeC, GS.wipeS, GS.backS, GS.tgIn, GS.noX, GS.itemsD, GS.Ob.toD, GS.isNonD, GS.ltD, X3, e, hsl, hm, hx]
theorem v_4 (O : Ora) (c : D) (d d1 : Dr) (s2 s3 s4 s5 s6 s7 s8 : Sl) (ws : List D) (e : O.Φ "_law_some" [.io d.ob] = .ok (.own (.lst ws)) (some d1.ob)) :
    ev O X4 (E1 c d s2 s3 s4 s5 s6 s7 s8) = .ok (.own (.lst ws)) (E1 c d1 s2 s3 s4 s5 s6 s7 s8) := by
  simp [GS.ioFits, GS.startS, GS.slOf, List.range, List.range.loop, GS.exB, GS.exS, GS.ev, GS.evs, GS.evT, GS.evB, GS.evI, GS.bind_ok, GS.opt_some, GS.retV, GS.endF, GS.outOf, GS.RV.opd, GS.Opd.get, GS.getAll, GS.isiD, GS.isFnD, GS.tyD, GS.truD, GS.cmpD, GS.binD, GS.putV, GS.putS, GS.frz, GS.frzL, GS.isIo, GS.biD, GS.D.len, GS.argsOf, GS.frzA, GS.getV, GS.lentOf, GS.outTo, GS.flatR, GS.ownAt, GS.setOb, GS.isOwn, GS.wipeC, GS.wipeS, GS.backS, GS.tgIn, GS.noX, GS.itemsD, GS.Ob.toD, GS.isNonD, GS.ltD, X4, e]
theorem v_6 (O : Ora) (c : D) (d d1 d2 d3 : Dr) (s2 s3 s4 s5 s6 s7 s8 : Sl) (u v p : Int) (x : D) (e1 : O.Φ "_law_next" [.io d.ob, .d (.int 100000)] = .ok (.d (.int u)) (some d1.ob)) (e2 : O.Φ "_law_next" [.io d1.ob, .d (.int 30)] = .ok (.d (.int v)) (some d2.ob)) (e3 : O.Φ "_law_next" [.io d2.ob, .d (.int 6)] = .ok (.d (.int p)) (some d3.ob))
    (hx : idxD (.list [.int u, .int 999, .int 99999, .int 0, .int v, .int 9999]) (.int p) = some x) :
    ev O X6 (E1 c d s2 s3 s4 s5 s6 s7 s8) = .ok (.d x) (E1 c d3 s2 s3 s4 s5 s6 s7 s8) := by
  have hsl : sizeLine = 16777216 := sizeLine_eq
  simp [GS.ioFits, GS.startS, GS.slOf, List.range, List.range.loop, GS.exB, GS.exS, GS.ev, GS.evs, GS.evT, GS.evB, GS.evI, GS.bind_ok, GS.opt_some, GS.retV, GS.endF, GS.outOf, GS.RV.opd, GS.Opd.get, GS.getAll, GS.isiD, GS.isFnD, GS.tyD, GS.truD, GS.cmpD, GS.binD, GS.putV, GS.putS, GS.frz, GS.frzL, GS.isIo, GS.biD, GS.D.len, GS.argsOf, GS.frzA, GS.getV, GS.lentOf, GS.outTo, GS.flatR, GS.ownAt, GS.setOb, GS.isOwn, GS.wipeC, GS.wipeS, GS.backS, GS.tgIn, GS.noX, GS.itemsD, GS.Ob.toD, GS.isNonD, GS.ltD, X6, e1, e2, e3, hsl, hx]
theorem v_7 (O : Ora) (c : D) (d d1 d2 : Dr) (s2 s3 s4 s5 s7 s8 : Sl) (u p tp : Int) (x : D) (e1 : O.Φ "_law_next" [.io d.ob, .d (.int 10000)] = .ok (.d (.int u)) (some d1.ob)) (e2 : O.Φ "_law_next" [.io d1.ob, .d (.int 5)] = .ok (.d (.int p)) (some d2.ob))
    (hx : idxD (.list [.int 0, .int (0 - u), .int (-9999), .int tp, .int (-1)]) (.int p) = some x) :
    ev O X7 (E1 c d s2 s3 s4 s5 (.val (.int tp)) s7 s8) = .ok (.d x) (E1 c d2 s2 s3 s4 s5 (.val (.int tp)) s7 s8) := by
  have hsl : sizeLine = 16777216 := sizeLine_eq
  have z : (0 : Int) - u = -u := by omega
  rw [z] at hx
  simp [GS.ioFits, GS.startS, GS.slOf, List.range, List.range.loop, GS.exB, GS.exS, GS.ev, GS.evs, GS.evT, GS.evB, GS.evI, GS.bind_ok, GS.opt_some, GS.retV, GS.endF, GS.outOf, GS.RV.opd, GS.Opd.get, GS.getAll, GS.isiD, GS.isFnD, GS.tyD, GS.truD, GS.cmpD, GS.binD, GS.putV, GS.putS, GS.frz, GS.frzL, GS.isIo, GS.biD, GS.D.len, GS.argsOf, GS.frzA, GS.getV, GS.lentOf, GS.outTo, GS.flatR, GS.ownAt, GS.setOb, GS.isOwn, GS.wipeC, GS.wipeS, GS.backS, GS.tgIn, GS.noX, GS.itemsD, GS.Ob.toD, GS.isNonD, GS.ltD, X7, e1, e2, hsl, hx]
end K01

namespace K01
open PySem GS
theorem put_d {i : Nat} {x : D} {s : Ev} (hi : i < s.length) (h : isIo s[i]? = false) : putV i (.d x) s = .ok () (s.set i (.val x)) := by
  show putS i (.val x) s = _
  unfold putS
  rw [h, decide_eq_true hi]
  rfl
theorem put_o {i : Nat} {o : Ob} {s : Ev} (hi : i < s.length) (h : isIo s[i]? = false) : putV i (.own o) s = .ok () (s.set i (.own o)) := by
  show putS i (.own o) s = _
  unfold putS
  rw [h, decide_eq_true hi]
  rfl
theorem next_step {O : Ora} {e : CS} {s s2 : Ev} {r : CSs} (h : exS O e s = .ok .nx s2) : exB O (.cons e r) s = exB O r s2 := by
  show ((exS O e s).bind fun f s => match f with
    | .nx => exB O r s
    | f => .ok f s) = _
  rw [h, bind_ok]
theorem v_8 (O : Ora) (c : D) (d d1 : Dr) (s2 s3 s4 s5 s6 s7 s8 : Sl) (e : O.Φ "_law_wholes_right" [.io d.ob] = .ok (.d (.bool true)) (some d1.ob)) :
    exS O (.ife (.not (.call ("_law_wholes_right" : Str) (.cons (.var 1) .nil) [.io 0])) (.cons (.ret (.con (.bool false))) .nil) .nil) (E1 c d s2 s3 s4 s5 s6 s7 s8) = .ok .nx (E1 c d1 s2 s3 s4 s5 s6 s7 s8) := by
  simp [GS.ioFits, GS.startS, GS.slOf, List.range, List.range.loop, GS.exB, GS.exS, GS.ev, GS.evs, GS.evT, GS.evB, GS.evI, GS.bind_ok, GS.opt_some, GS.retV, GS.endF, GS.outOf, GS.RV.opd, GS.Opd.get, GS.getAll, GS.isiD, GS.isFnD, GS.tyD, GS.truD, GS.cmpD, GS.binD, GS.putV, GS.putS, GS.frz, GS.frzL, GS.isIo, GS.biD, GS.D.len, GS.argsOf, GS.frzA, GS.getV, GS.lentOf, GS.outTo, GS.flatR, GS.ownAt, GS.setOb, GS.isOwn, GS.wipeC, GS.wipeS, GS.backS, GS.tgIn, GS.noX, GS.itemsD, GS.Ob.toD, GS.isNonD, GS.ltD, e]
theorem odd_at (v : Int) (v0 : 0 ≤ v) (v1 : v < 8) : ∃ x, idxD (.list odd) (.int v) = some x ∧ isFnD x = false ∧ ∀ y, x ≠ .str y := by
  have : v = 0 ∨ v = 1 ∨ v = 2 ∨ v = 3 ∨ v = 4 ∨ v = 5 ∨ v = 6 ∨ v = 7 := by omega
  rcases this with rfl | rfl | rfl | rfl | rfl | rfl | rfl | rfl <;> exact ⟨_, rfl, rfl, fun y h => by cases h⟩
theorem top_at (u v p : Int) (u0 : 0 ≤ u) (u1 : u < 100000) (v0 : 0 ≤ v) (v1 : v < 30) (p0 : 0 ≤ p) (p1 : p < 6) : ∃ t : Int, idxD (.list [.int u, .int 999, .int 99999, .int 0, .int v, .int 9999]) (.int p) = some (.int t) ∧ 0 ≤ t ∧ t < 100000 := by
  have : p = 0 ∨ p = 1 ∨ p = 2 ∨ p = 3 ∨ p = 4 ∨ p = 5 := by omega
  rcases this with rfl | rfl | rfl | rfl | rfl | rfl <;> exact ⟨_, rfl, by omega, by omega⟩
theorem low_at (u p tp : Int) (u0 : 0 ≤ u) (u1 : u < 10000) (p0 : 0 ≤ p) (p1 : p < 5) (t0 : 0 ≤ tp) (t1 : tp < 100000) : ∃ t : Int, idxD (.list [.int 0, .int (0 - u), .int (-9999), .int tp, .int (-1)]) (.int p) = some (.int t) ∧ -100000 < t ∧ t < 100000 := by
  have : p = 0 ∨ p = 1 ∨ p = 2 ∨ p = 3 ∨ p = 4 := by omega
  rcases this with rfl | rfl | rfl | rfl | rfl <;> exact ⟨_, rfl, by omega, by omega⟩
structure Inv (c : D) (b : Int) (s : Ev) : Prop where
  it : ∃ d s2 s3 s4 s5 s6 s7 s8, s = E1 c d s2 s3 s4 s5 s6 s7 s8 ∧ d.Ok b ∧ isIo (some s2) = false ∧ isIo (some s3) = false ∧ isIo (some s4) = false ∧ isOwn (some s5) = false ∧ isIo (some s6) = false ∧ isIo (some s7) = false ∧ isOwn (some s8) = false
theorem turn2 (k : Nat) (O : Ora) (hΦ : O.Φ = run prog (k + 5)) (c : D) (b : Int) (hb : b + 3000000 < 2 ^ 38) (s : Ev) (h : Inv c b s) : ∃ s', exB O n2B s = .ok .nx s' ∧ Inv c (b + 49) s' := by
  obtain ⟨d, s2, s3, s4, s5, s6, s7, s8, rfl, g, i2, i3, i4, i5, i6, i7, i8⟩ := h
  obtain ⟨v, d1, e1, v0, v1, g1⟩ := r_next (k + 3) d b g (by omega) 8 (by decide) (by decide)
  obtain ⟨x, hx, fx, nx⟩ := odd_at v v0 v1
  obtain ⟨ws, d2, e2, l2, w2, g2⟩ := r_some k d1 (b + 1) g1 (by omega)
  obtain ⟨u3, d3, e3, u30, u31, g3⟩ := r_next (k + 3) d2 (b + 1 + 40) g2 (by omega) 100000 (by decide) (by decide)
  obtain ⟨u4, d4, e4, u40, u41, g4⟩ := r_next (k + 3) d3 _ g3 (by omega) 30 (by decide) (by decide)
  obtain ⟨u5, d5, e5, u50, u51, g5⟩ := r_next (k + 3) d4 _ g4 (by omega) 6 (by decide) (by decide)
  obtain ⟨tp, ht, t0, t1⟩ := top_at u3 u4 u5 u30 u31 u40 u41 u50 u51
  obtain ⟨u6, d6, e6, u60, u61, g6⟩ := r_next (k + 3) d5 _ g5 (by omega) 10000 (by decide) (by decide)
  obtain ⟨u7, d7, e7, u70, u71, g7⟩ := r_next (k + 3) d6 _ g6 (by omega) 5 (by decide) (by decide)
  obtain ⟨lw, hw, w0, w1⟩ := low_at u6 u7 tp u60 u61 u70 u71 t0 t1
  obtain ⟨d8, e8, g8⟩ := r_wholes (k + 2) d7 _ g7 (by omega)
  rw [← hΦ] at e1 e2 e3 e4 e5 e6 e7 e8
  have n0 : ∀ y ∈ ws.map PyData.str ++ [x], ∃ b, O.Φ "is_name" [.d y] = .ok (.d (.bool b)) none ∧ O.Φ "_law_is_name" [.d y] = .ok (.d (.bool b)) none := by
    intro y hy
    have q : isFnD y = false ∧ ∀ z, y = .str z → z.length ≤ 6000 := by
      rcases List.mem_append.mp hy with hy | hy
      · obtain ⟨w, hw, rfl⟩ := List.mem_map.mp hy
        exact ⟨rfl, fun z e => by cases e; exact Nat.le_trans (w2 w hw).len (by decide)⟩
      · rw [List.mem_singleton.mp hy]
        exact ⟨fx, fun z e => absurd e (nx z)⟩
    rw [hΦ]
    exact ⟨nameD y, r_is_name (k + 4) y q.1 q.2, r_law_is_name (k + 4) y q.1 q.2⟩
  obtain ⟨s5', h5, q5⟩ := law0 O (.val c) d2 s2 x (ws.map .str) s5 s6 s7 s8 i5 (by rw [List.length_map]; omega) n0
  have n1 := num_word tp (by omega)
  have n2 := num_word (tp + 1) (by omega)
  have n3 := num_word lw (by omega)
  have n4 := num_word (lw - 1) (by omega)
  obtain ⟨s8', h8, q8⟩ := law1 O (.val c) d7 s2 x ws s5' tp lw s8 _ _ _ _ (by omega) i8 (bi_str tp (by omega)) (bi_str (tp + 1) (by omega)) (bi_str lw (by omega)) (bi_str (lw - 1) (by omega)) (by
    intro w hw lo hi
    have l : w.length ≤ 6000 := by
      rcases List.mem_append.mp hw with hw | hw
      · exact Nat.le_trans (w2 w hw).len (by decide)
      · simp only [six, List.mem_cons, List.not_mem_nil, or_false] at hw
        rcases hw with rfl | rfl | rfl | rfl | rfl | rfl
        · exact Nat.le_trans n1.len (by decide)
        · exact Nat.le_trans n2.len (by decide)
        · exact Nat.le_trans n3.len (by decide)
        · exact Nat.le_trans n4.len (by decide)
        · decide +kernel
        · decide +kernel
    rw [hΦ]
    exact ⟨r_number_in (k + 4) w lo hi l, r_law_read (k + 4) w lo hi l, r_same (k + 4) w lo hi⟩)
  have p3 := v_3 O c d d1 s2 s3 s4 s5 s6 s7 s8 v x e1 hx
  have p4 := v_4 O c d1 d2 s2 (.val x) s4 s5 s6 s7 s8 _ e2
  have p6 := v_6 O c d2 d3 d4 d5 s2 (.val x) (.own (.lst (ws.map .str))) s5' s6 s7 s8 u3 u4 u5 _ e3 e4 e5 ht
  have p7 := v_7 O c d5 d6 d7 s2 (.val x) (.own (.lst (ws.map .str))) s5' s7 s8 u6 u7 tp _ e6 e7 hw
  have p8 := v_8 O c d7 d8 s2 (.val x) (.own (.lst (ws.map .str))) s5' (.val (.int tp)) (.val (.int lw)) s8' e8
  refine ⟨E1 c d8 s2 (.val x) (.own (.lst (ws.map .str))) s5' (.val (.int tp)) (.val (.int lw)) s8', ?_, ⟨d8, s2, _, _, s5', _, _, s8', rfl, ?_, i2, rfl, rfl, h5, rfl, rfl, h8⟩⟩
  · show exB O (.cons (.set 3 X3) (.cons (.set 4 X4) (.cons q_law_0 (.cons (.set 6 X6) (.cons (.set 7 X7) (.cons q_law_1 _)))))) _ = _
    rw [set_step p3 (put_d (show 3 < 9 by decide) i3)]
    show exB O _ (E1 c d1 s2 (.val x) s4 s5 s6 s7 s8) = _
    rw [set_step p4 (put_o (show 4 < 9 by decide) i4)]
    show exB O _ (E0 (.val c) d2 s2 x (.own (.lst (ws.map .str))) s5 s6 s7 s8) = _
    rw [next_step q5]
    show exB O _ (E1 c d2 s2 (.val x) (.own (.lst (ws.map .str))) s5' s6 s7 s8) = _
    rw [set_step p6 (put_d (show 6 < 9 by decide) i6)]
    show exB O _ (E1 c d5 s2 (.val x) (.own (.lst (ws.map .str))) s5' (.val (.int tp)) s7 s8) = _
    rw [set_step p7 (put_d (show 7 < 9 by decide) i7)]
    show exB O _ (E0 (.val c) d7 s2 x (.own (.lst (ws.map .str))) s5' (.val (.int tp)) (.val (.int lw)) s8) = _
    rw [next_step q8]
    show exB O _ (E1 c d7 s2 (.val x) (.own (.lst (ws.map .str))) s5' (.val (.int tp)) (.val (.int lw)) s8') = _
    rw [next_step p8]
    rfl
  · have : b + 49 = b + 1 + 40 + 1 + 1 + 1 + 1 + 1 + 3 := by omega
    rw [this]
    exact g8
end K01

namespace K01
open PySem GS
theorem loop2 (k : Nat) (O : Ora) (hΦ : O.Φ = run prog (k + 5)) (c : D) (N : Nat) (hN : N ≤ 41) (s : Ev) (h : Inv c 0 s) (e : evI O n2I s = .ok ((List.range N).map fun (k : Nat) => PyData.int (k : Int)) s) : ∃ s', exS O q_law_2 s = .ok .nx s' := by
  obtain ⟨s', e2, _⟩ := forL_inv (bind := bindT (.nm 2)) (body := fun s => exB O n2B s) (fun n s => Inv c (49 * (n : Int)) s) ((List.range N).map fun (k : Nat) => PyData.int (k : Int)) 0 s (by simpa using h) (by
    intro i y hy s hs
    have hi : i < 41 := by
      have := (List.getElem?_eq_some_iff.mp hy).1
      rw [List.length_map, List.length_range] at this
      omega
    obtain ⟨d, s2, s3, s4, s5, s6, s7, s8, rfl, g, i2, i3, i4, i5, i6, i7, i8⟩ := hs
    obtain ⟨s', q, hs'⟩ := turn2 k O hΦ c (49 * ((0 + i : Nat) : Int)) (by omega) (E1 c d (.val y) s3 s4 s5 s6 s7 s8) ⟨d, _, s3, s4, s5, s6, s7, s8, rfl, g, rfl, i3, i4, i5, i6, i7, i8⟩
    refine ⟨_, .nx, s', put_emp (show 2 < 9 by decide) i2, q, .inl rfl, ?_⟩
    have : (49 : Int) * ((0 + i + 1 : Nat) : Int) = 49 * ((0 + i : Nat) : Int) + 49 := by omega
    rw [this]
    exact hs')
  refine ⟨s', ?_⟩
  rw [k_law2]
  show ((evI O n2I s).bind fun xs s => forL (bindT (.nm 2)) (fun s => exB O n2B s) xs s) = _
  rw [e, bind_ok]
  exact e2
def Y1 : GS.CE := .call ("_law_begin" : Str) (.cons (.var 0) .nil) [.pos 0]
def Y2 : CS := .ife (.cmp .NotEq (.glob ("MOST" : Str)) (.con (.int (999)))) (.cons (.ret (.con (.bool false))) .nil) .nil
theorem k_top : k_law = .cons (.set 1 Y1) (.cons Y2 (.cons q_law_2 (.cons (.ret (.con (.bool true))) .nil))) := rfl
theorem y_1 (O : Ora) (l : List D) (d : Dr) (e : O.Φ "_law_begin" [.d (.list l)] = .ok (.own d.ob) none) : ev O Y1 [.val (.list l), .emp, .emp, .emp, .emp, .emp, .emp, .emp, .emp] = .ok (.own d.ob) [.val (.list l), .emp, .emp, .emp, .emp, .emp, .emp, .emp, .emp] := by
  simp [GS.ioFits, GS.startS, GS.slOf, List.range, List.range.loop, GS.exB, GS.exS, GS.ev, GS.evs, GS.evT, GS.evB, GS.evI, GS.bind_ok, GS.opt_some, GS.retV, GS.endF, GS.outOf, GS.RV.opd, GS.Opd.get, GS.getAll, GS.isiD, GS.isFnD, GS.tyD, GS.truD, GS.cmpD, GS.binD, GS.putV, GS.putS, GS.frz, GS.frzL, GS.isIo, GS.biD, GS.D.len, GS.argsOf, GS.frzA, GS.getV, GS.lentOf, GS.outTo, GS.flatR, GS.ownAt, GS.setOb, GS.isOwn, GS.wipeC, GS.wipeS, GS.backS, GS.tgIn, GS.noX, GS.itemsD, GS.Ob.toD, GS.isNonD, GS.ltD, Y1, e]
theorem y_2 (O : Ora) (s : Ev) (e : O.G "MOST" = some (.int 999)) : exS O Y2 s = .ok .nx s := by
  have h := eq_int 999
  simp [GS.ioFits, GS.startS, GS.slOf, List.range, List.range.loop, GS.exB, GS.exS, GS.ev, GS.evs, GS.evT, GS.evB, GS.evI, GS.bind_ok, GS.opt_some, GS.retV, GS.endF, GS.outOf, GS.RV.opd, GS.Opd.get, GS.getAll, GS.isiD, GS.isFnD, GS.tyD, GS.truD, GS.cmpD, GS.binD, GS.putV, GS.putS, GS.frz, GS.frzL, GS.isIo, GS.biD, GS.D.len, GS.argsOf, GS.frzA, GS.getV, GS.lentOf, GS.outTo, GS.flatR, GS.ownAt, GS.setOb, GS.isOwn, GS.wipeC, GS.wipeS, GS.backS, GS.tgIn, GS.noX, GS.itemsD, GS.Ob.toD, GS.isNonD, GS.ltD, Y2, e, h]
theorem y_3 (O : Ora) (l : List D) (d : Dr) (hl : l.length ≤ 63) : evI O n2I (E1 (.list l) d .emp .emp .emp .emp .emp .emp .emp) = .ok ((List.range (min 40 l.length + 1)).map fun (k : Nat) => PyData.int (k : Int)) (E1 (.list l) d .emp .emp .emp .emp .emp .emp .emp) := by
  have e : ev O (.bin .Add (.bi "min" (.cons (.con (.int (40))) (.cons (.bi "len" (.cons (.var 0) .nil)) .nil))) (.con (.int (1)))) (E1 (.list l) d .emp .emp .emp .emp .emp .emp .emp) = .ok (.d (.int ((min 40 l.length + 1 : Nat) : Int))) (E1 (.list l) d .emp .emp .emp .emp .emp .emp .emp) := by
    have q : (if ((l.length : Int) < 40) then (l.length : Int) else 40) + 1 = ((min 40 l.length + 1 : Nat) : Int) := by
      split <;> omega
    simp [GS.ioFits, GS.startS, GS.slOf, List.range, List.range.loop, GS.exB, GS.exS, GS.ev, GS.evs, GS.evT, GS.evB, GS.evI, GS.bind_ok, GS.opt_some, GS.retV, GS.endF, GS.outOf, GS.RV.opd, GS.Opd.get, GS.getAll, GS.isiD, GS.isFnD, GS.tyD, GS.truD, GS.cmpD, GS.binD, GS.putV, GS.putS, GS.frz, GS.frzL, GS.isIo, GS.biD, GS.D.len, GS.argsOf, GS.frzA, GS.getV, GS.lentOf, GS.outTo, GS.flatR, GS.ownAt, GS.setOb, GS.isOwn, GS.wipeC, GS.wipeS, GS.backS, GS.tgIn, GS.noX, GS.itemsD, GS.Ob.toD, GS.isNonD, GS.ltD]
    omega
  show ((ev O (.bin .Add (.bi "min" (.cons (.con (.int (40))) (.cons (.bi "len" (.cons (.var 0) .nil)) .nil))) (.con (.int (1)))) (E1 (.list l) d .emp .emp .emp .emp .emp .emp .emp)).bind fun x s => match x.opd.get s with
      | some (.int j) => if -(2 ^ 62) ≤ j && j < 2 ^ 62 then Rs.ok ((List.range j.toNat).map fun (k : Nat) => PyData.int (k : Int)) s else .stuck
      | _ => .stuck) = _
  rw [e, bind_ok]
  show (if (decide (-(2 ^ 62) ≤ ((min 40 l.length + 1 : Nat) : Int)) && decide (((min 40 l.length + 1 : Nat) : Int) < 2 ^ 62)) = true then _ else _) = _
  rw [if_pos (by rw [Bool.and_eq_true, decide_eq_true_eq, decide_eq_true_eq]; omega), Int.toNat_natCast]
theorem main (ns : List Int) (hl : ns.length ≤ 63) : GS.run prog 60 "law" [.d (.list (ns.map PyData.int))] = .ok (.d (.bool true)) none := by
  refine run_ex (k := 59) (fun r => r = .ok (.d (.bool true)) none) fs_law fun O hΦ hG => ?_
  have e1 := begin_at 58 ns hl
  rw [← hΦ] at e1
  have g : O.G "MOST" = some (.int 999) := by rw [hG]; rfl
  have q1 := y_1 O _ _ e1
  obtain ⟨s', q⟩ := loop2 54 O hΦ (.list (ns.map PyData.int)) (min 40 (ns.map PyData.int).length + 1) (by omega) _ ⟨⟨ns ++ [0], 0, 0, 0⟩, .emp, .emp, .emp, .emp, .emp, .emp, .emp, rfl, ⟨by simp, by rw [List.length_append]; simp; omega, Int.le_refl 0, Int.le_refl 0, Int.le_refl 0, Int.le_refl 0, Int.le_refl 0⟩, rfl, rfl, rfl, rfl, rfl, rfl, rfl⟩ (y_3 O _ _ (by rw [List.length_map]; exact hl))
  show endF none (exB O k_law [.val (.list (ns.map PyData.int)), .emp, .emp, .emp, .emp, .emp, .emp, .emp, .emp]) = _
  rw [k_top, set_step q1 (put_o (show 1 < 9 by decide) rfl), next_step (y_2 O _ g)]
  show endF none (exB O (.cons q_law_2 _) (E1 (.list (ns.map PyData.int)) ⟨ns ++ [0], 0, 0, 0⟩ .emp .emp .emp .emp .emp .emp .emp)) = _
  rw [next_step q]
  rfl
theorem law_holds : PySem.Challenge.rw_gateslack_k01_numbers_and_names.Holds := holds_of main
end K01

theorem PySem.Challenge.cw_gateslack_k01_numbers_and_names_holds : PySem.Challenge.rw_gateslack_k01_numbers_and_names.Holds :=
  K01.holds_of K01.main
