import PyProof.Rows.All
import Wide.All
import OpenK.AllK
import Wide.FinOn
import PyProof.EqAt
import PyProof.EqKinds
import PyProof.TupleCall
import HandS.ForMost
import HandS.ForExc
import HandS.IsInst
import HandS.Defaults
import HandS.DictComp
import HandS.CallSlots
import KE.SortData
import HandS.TupAny
import HandS.TupMul
import HandS.Deep
import HandS.RaiseMore
import HandS.Replace
import HandS.Text
import HandS.Exc
import HandS.Flow
import PyProof.DictUpdate
import KE.KUnpackStar
import KE.GoesMore
import KE.GoesZip
import KE.GoesEnumKw
import HandS.Zip
import KE.KDictZip
import KE.KDictItemsList
import HandS.ListItems
import HandS.ExcOwn
import HandS.Ends
import HandS.HeadEnd
import HandS.Head2
import HandS.HeadHook2
import KE.KStrBytes
import PySem.Challenge.RW_gateslack_k24_slacks_along_paths
set_option Elab.async false
set_option linter.all false
set_option maxRecDepth 100000
set_option maxHeartbeats 8000000
/-! GS0: pure data, the core language, its evaluator. -/
namespace GS
open PySem

abbrev D := PyData
/-- a def as a value -/
abbrev fnD (f : Str) : D := .dict [(.tuple [], .str f)]

def isFnB : List (D × D) → Bool
  | [(.tuple [], .str _)] => true
  | _ => false
/-- what a frame owns -/
inductive Ob where
  | lst (xs : List D)
  | dic (kvs : List (D × D))
def Ob.toD : Ob → D
  | .lst xs => .list xs
  | .dic kvs => .dict kvs
/-- a slot: nothing known, a value, an object that the frame owns, one that its caller lent -/
inductive Sl where
  | emp
  | val (d : D)
  | own (o : Ob)
  | io (o : Ob)
abbrev Ev := List Sl
/-- what an expression gives: a value, a new object, a slot's object -/
inductive RV where
  | d (d : D)
  | own (o : Ob)
  | sl (i : Nat)
structure Xn where
  cls : Str
  flds : List (Str × D)
inductive Rs (α : Type) where
  | ok (a : α) (s : Ev)
  | er (x : Xn) (s : Ev)
  | stuck
def Rs.bind {α β : Type} (r : Rs α) (f : α → Ev → Rs β) : Rs β :=
  match r with
  | .ok a s => f a s
  | .er x s => .er x s
  | .stuck => .stuck
def Rs.opt {α : Type} (o : Option α) (s : Ev) : Rs α :=
  match o with
  | some a => .ok a s
  | none => .stuck
inductive FR where
  | ok (v : RV) (out : Option Ob)
  | er (x : Xn) (out : Option Ob)
  | stuck
inductive AV where
  | d (d : D)
  | io (o : Ob)
/-- an operand -/
inductive Opd where
  | d (d : D)
  | sl (i : Nat)
inductive Fl where
  | nx
  | ret (v : RV)
  | brk
  | ct
structure Ora where
  Φ : Str → List AV → FR
  Λ : (Ev → Rs Bool) → (Ev → Rs Fl) → Ev → Rs Fl
  G : Str → Option D

def Opd.get (s : Ev) : Opd → Option D
  | .d x => some x
  | .sl i => match s[i]? with
    | some (.val x) => some x
    | some (.own o) => some o.toD
    | some (.io o) => some o.toD
    | _ => none
def RV.opd : RV → Opd
  | .d x => .d x
  | .own o => .d o.toD
  | .sl i => .sl i
def getAll (s : Ev) : List Opd → Option (List D)
  | [] => some []
  | o :: r => match o.get s, getAll s r with
    | some d, some ds => some (d :: ds)
    | _, _ => none
/-- a slot's object as a value from now on -/
def frz : RV → Ev → Rs D
  | .d d, s => .ok d s
  | .own o, s => .ok o.toD s
  | .sl i, s => match s[i]? with
    | some (.val d) => .ok d s
    | some (.own o) => .ok o.toD (s.set i (.val o.toD))
    | _ => .stuck

/-- a slot's object counts as a value from now on -/
def stl : RV → Ev → Rs RV
  | .d d, s => .ok (.d d) s
  | .own o, s => .ok (.own o) s
  | .sl i, s => (frz (.sl i) s).bind fun d s => .ok (.d d) s
/-! ### values -/
def chr1 (c : Nat) : D := .str ⟨#[c]⟩
def D.len : D → Option Nat
  | .str x => some x.length
  | .list xs => some xs.length
  | .tuple xs => some xs.length
  | .dict kvs => if isFnB kvs then none else some kvs.length
  | _ => none
def truD : D → Option Bool
  | .none => some false
  | .bool b => some b
  | .int i => some (i != 0)
  | .str x => some (x.length != 0)
  | .list xs => some (!xs.isEmpty)
  | .tuple xs => some (!xs.isEmpty)
  | .dict kvs => if isFnB kvs then none else some (!kvs.isEmpty)
def mulOk (i j : Int) : Bool := (decide (-(2 ^ 64) < i) && decide (i < 2 ^ 64)) || (decide (-(2 ^ 64) < j) && decide (j < 2 ^ 64))
def repD (xs : List D) (k : Int) : List D := (List.replicate k.toNat xs).flatten
def binD (o : Operator) (x y : D) : Option RV :=
  match o, x, y with
  | .Add, .int i, .int j => some (.d (.int (i + j)))
  | .Sub, .int i, .int j => some (.d (.int (i - j)))
  | .Mult, .int i, .int j => if mulOk i j then some (.d (.int (i * j))) else none
  | .FloorDiv, .int i, .int j => if 0 < j && j < 1073741824 then some (.d (.int (i / j))) else none
  | .Mod, .int i, .int j => if 0 < j then some (.d (.int (i % j))) else none
  | .Pow, .int i, .int j => if 0 ≤ j && j ≤ 1000000 && i.natAbs < 2 ^ 64 then some (.d (.int (i ^ j.toNat))) else none
  | .LShift, .int i, .int j => if 0 ≤ j && j ≤ 1000000 && i.natAbs < 2 ^ 64 then some (.d (.int (i * 2 ^ j.toNat))) else none
  | .RShift, .int i, .int j => if 0 ≤ j then some (.d (.int (i / 2 ^ j.toNat))) else none
  | .BitAnd, .int i, .int j => some (.d (.int (Builtin.bitAnd i j)))
  | .Add, .str a, .str b => if a.length + b.length ≤ sizeLine then some (.d (.str (a ++ b))) else none
  | .Add, .list a, .list b => if a.length + b.length ≤ sizeLine then some (.own (.lst (a ++ b))) else none
  | .Add, .tuple a, .tuple b => if a.length + b.length ≤ sizeLine then some (.d (.tuple (a ++ b))) else none
  | .Mult, .tuple a, .int k => none
  | .Mult, .str a, .int k => if 0 ≤ k && k < 2 ^ 62 && a.length * k.toNat ≤ sizeLine then some (.d (.str ⟨((List.replicate k.toNat a.cps.toList).flatten).toArray⟩)) else none
  | _, _, _ => none
mutual
/-- no dict within: == speaks of such -/
def plainD : D → Bool
  | .dict _ => false
  | .list xs => plainA xs
  | .tuple xs => plainA xs
  | _ => true
def plainA : List D → Bool
  | [] => true
  | x :: r => plainD x && plainA r
end
def eqD (x y : D) : Option Bool :=
  if plainD x && plainD y && decide (min x.depth y.depth ≤ 64) then some (PyData.eqv x y) else none
/-- a key of a dict: a number, a text -/
def keyOk : D → Bool
  | .int _ => true
  | .str _ => true
  | _ => false
def keyEq : D → D → Bool
  | .int i, .int j => decide (i = j)
  | .str a, .str b => decide (a = b)
  | _, _ => false
def lookD (k : D) : List (D × D) → Option D
  | [] => none
  | (j, v) :: r => if keyEq j k then some v else lookD k r
def putD (k v : D) (kvs : List (D × D)) : List (D × D) :=
  if kvs.any fun p => keyEq p.1 k then kvs.map fun p => if keyEq p.1 k then (p.1, v) else p else kvs ++ [(k, v)]
def isIn (x y : D) : Option Bool :=
  match y with
  | .list ys => if plainD x && plainA ys && decide (min (PyData.depthAll ys) x.depth ≤ 64) then some (ys.any fun y => PyData.eqv y x) else none
  | .tuple ys => if plainD x && plainA ys && decide (min (PyData.depthAll ys) x.depth ≤ 64) then some (ys.any fun y => PyData.eqv y x) else none
  | .dict kvs => if keyOk x && !isFnB kvs then some (lookD x kvs).isSome else none
  | .str b => match x with
    | .str a => some (!(Builtin.Str.occurrences b a 0 b.length 1).isEmpty)
    | _ => none
  | _ => none
def ltD (x y : D) : Option Bool :=
  match x, y with
  | .int i, .int j => some (decide (i < j))
  | _, _ => none
def isNonD : D → Bool
  | .none => true
  | _ => false
def cmpD (o : CmpOp) (x y : D) : Option Bool :=
  match o with
  | .Eq => eqD x y
  | .NotEq => (eqD x y).map not
  | .Lt => ltD x y
  | .LtE => match x, y with | .int i, .int j => some (decide (i ≤ j)) | _, _ => none
  | .Gt => match x, y with | .int i, .int j => some (decide (j < i)) | _, _ => none
  | .GtE => match x, y with | .int i, .int j => some (decide (j ≤ i)) | _, _ => none
  | .In => isIn x y
  | .NotIn => (isIn x y).map not
  | .Is => match y with | .none => some (isNonD x) | _ => none
  | .IsNot => match y with | .none => some (!isNonD x) | _ => none
def idxD (x y : D) : Option D :=
  match x, y with
  | .list xs, .int i => L2.atI xs i
  | .tuple xs, .int i => L2.atI xs i
  | .str z, .int i => (L2.atI z.cps.toList i).map chr1
  | .dict kvs, k => if keyOk k && !isFnB kvs then lookD k kvs else none
  | _, _ => none
def partD : List D → Option (Option Int)
  | [] => some none
  | [.int i] => some (some i)
  | _ => none
def cutD (xs : List D) (lo hi : Option Int) : List D := (xs.drop (HT.sIx xs.length 0 lo)).take (HT.sIx xs.length xs.length hi - HT.sIx xs.length 0 lo)
def slcD (x : D) (lo hi : Option Int) : Option RV :=
  match x with
    | .list xs => some (.own (.lst (cutD xs lo hi)))
    | .tuple xs => some (.d (.tuple (cutD xs lo hi)))
    | .str z => some (.d (.str (L2.cutS z lo hi)))
    | _ => none
/-- the built-in types that isinstance names -/
def tyD : D → String
  | .none => "NoneType"
  | .bool _ => "bool"
  | .int _ => "int"
  | .str _ => "str"
  | .list _ => "list"
  | .tuple _ => "tuple"
  | .dict _ => "dict"
def isFnD : D → Bool
  | .dict kvs => isFnB kvs
  | _ => false
def isiD (x : D) (t : String) : Option Bool := if isFnD x then none else some (tyD x == t || (tyD x == "bool" && t == "int"))
def bools : List D → Option (List Bool)
  | [] => some []
  | .bool b :: r => (bools r).map (b :: ·)
  | _ => none
def intsD : List D → Option (List Int)
  | [] => some []
  | .int b :: r => (intsD r).map (b :: ·)
  | _ => none
def strsD : List D → Option (List Str)
  | [] => some []
  | .str b :: r => (strsD r).map (b :: ·)
  | _ => none
def seqD : D → Option (List D)
  | .list xs => some xs
  | .tuple xs => some xs
  | _ => none
def lstD : D → Option (List D)
  | .list xs => some xs
  | _ => none
/-- a list of pairs, for dict(..) -/
def pairsD : List D → Option (List (D × D))
  | [] => some []
  | .tuple [k, v] :: r => if keyOk k then (pairsD r).map ((k, v) :: ·) else none
  | _ => none
def nonTup : D → Bool
  | .none => false
  | .tuple _ => false
  | _ => true
def tupNe : D → Bool
  | .tuple (_ :: _) => true
  | _ => false
/-- data that sorted() tells apart -/
def sortB (xs : List D) : Bool := plainA xs && (xs.all fun x => xs.all fun y => PySem.W.alike x y) && (xs.all tupNe || xs.all nonTup) && decide (PyData.depthAll xs ≤ 60)
def sortD (xs : List D) : List D := xs.mergeSort (PySem.W.dataLe false id)
def mergeD (kvs : List (D × D)) : List (D × D) → List (D × D)
  | [] => kvs
  | (k, v) :: r => mergeD (putD k v kvs) r
def b2iD (b : Bool) : Int := if b then 1 else 0
/-- built-in functions -/
def biD (f : String) (ds : List D) : Option RV :=
  match f, ds with
  | "len", [x] => x.len.map fun n => .d (.int n)
  | "all", [x] => ((lstD x).bind bools).map fun bs => .d (.bool (bs.all id))
  | "any", [x] => ((lstD x).bind bools).map fun bs => .d (.bool (bs.any id))
  | "sum", [x] => ((lstD x).bind intsD).map fun ns => .d (.int ns.sum)
  | "min", [.int i, .int j] => some (.d (.int (if j < i then j else i)))
  | "max", [.int i, .int j] => some (.d (.int (if j > i then j else i)))
  | "abs", [.int i] => some (.d (.int (if i < 0 then -i else i)))
  | "int", [.int i] => some (.d (.int i))
  | "int", [.bool b] => some (.d (.int (b2iD b)))
  | "int", [.str a] => if a.length ≤ 640 then (intText? a).map fun n => .d (.int n) else none
  | "str", [.int i] => if i.natAbs.log2 < 1920 && PyData.strOk (Str.ofString (toString i)) then some (.d (.str (toString i))) else none
  | "list", [x] => (seqD x).map fun xs => .own (.lst xs)
  | "tuple", [x] => (seqD x).map fun xs => .d (.tuple xs)
  | "str", [.str a] => some (.d (.str a))
  | "sorted", [x] => (lstD x).bind fun xs => if sortB xs then some (.own (.lst (sortD xs))) else none
  | "dict", [x] => ((lstD x).bind pairsD).map fun kvs => .own (.dic (mergeD [] kvs))
  | "bool", [.int i] => some (.d (.bool (i != 0)))
  | "bool", [.bool i] => some (.d (.bool i))
  | "repr", [x] => if x.showable && plainD x && decide (x.depth ≤ 60) && decide (x.shown.length ≤ sizeLine) && PyData.strOk x.shown then some (.d (.str x.shown)) else none
  | _, _ => none
/-- methods that change nothing -/
def methD (m : String) (x : D) (ds : List D) : Option RV :=
  match m, x, ds with
  | "startswith", .str a, [.str b] => some (.d (.bool (Txt.startswith a b)))
  | "join", .str a, [y] => ((seqD y).bind strsD).bind fun ys => if (ys.map (·.length)).sum + ys.length * a.length ≤ 16777216 && decide ((Txt.join a ys).length ≤ sizeLine) && PyData.strOk (Txt.join a ys) then some (.d (.str (Txt.join a ys))) else none
  | "index", .str a, [.str b] => match Builtin.Str.occurrences a b 0 a.length 1 with
    | i :: _ => some (.d (.int (i : Nat)))
    | [] => none
  | "endswith", .str a, [.str b] => some (.d (.bool (Txt.endswith a b)))
  | "split", .str a, [.str b] => if b.length != 0 && decide (a.length + 2 ≤ sizeLine) && (Txt.split a b).all (fun z => PyData.strOk z && decide (z.length ≤ sizeLine)) && decide ((Txt.split a b).length ≤ sizeLine) then some (.own (.lst ((Txt.split a b).map PyData.str))) else none
  | "find", .str a, [.str b] => some (.d (.int (Txt.find a b)))
  | "count", .str a, [.str b] => some (.d (.int (Txt.count a b)))
  | "get", .dict kvs, [k] => if keyOk k && !isFnB kvs then some (.d ((lookD k kvs).getD .none)) else none
  | "get", .dict kvs, [k, v] => if keyOk k && !isFnB kvs then some (.d ((lookD k kvs).getD v)) else none
  | _, _, _ => none
/-- the receiver is of the type at once -/
def mtOf (m : String) : D → Bool
  | .str _ => m != "get"
  | .dict kvs => m == "get" && !isFnB kvs
  | _ => false
def isLst : Option Ob → Bool
  | some (.lst _) => true
  | _ => false
def isDic : Option Ob → Bool
  | some (.dic _) => true
  | _ => false
def zipD (xs ys : List D) : List D := List.zipWith (fun x y => .tuple [x, y]) xs ys
/-- methods and stores that change the object -/
def mutD (m : String) (o : Ob) (ds : List D) : Option (D × Ob) :=
  match m, o, ds with
  | "append", .lst xs, [y] => if xs.length < sizeLine then some (.none, .lst (xs ++ [y])) else none
  | "pop", .lst xs, [] => (xs[xs.length - 1]?).map fun y => (y, .lst xs.dropLast)
  | "pop", .lst xs, [.int i] => if -(2 ^ 63) ≤ i && i < 2 ^ 63 then (seqIndex? i xs.length).bind fun k => (xs[k]?).map fun y => (y, .lst (xs.eraseIdx k)) else none
  | "setitem", .dic kvs, [k, v] => if keyOk k && decide (kvs.length < sizeLine) then some (.none, .dic (putD k v kvs)) else none
  | _, _, _ => none
def itemsD : D → Option (List D)
  | .list xs => some xs
  | .tuple xs => some xs
  | .str z => some (z.cps.toList.map chr1)
  | _ => none

/-! ### the core language -/
/-- how a parameter is filled -/
inductive PA where
  | pos (k : Nat)
  | io (k : Nat)
  | dfl (d : D)
/-- a target -/
inductive CT where
  | nm (i : Nat)
  | tup (is : List Nat)
mutual
inductive CE where
  | con (d : D)
  | var (i : Nat)
  | glob (x : Str)
  | bin (o : Operator) (a b : CE)
  | rep (a b : CE)
  | neg (a : CE)
  | not (a : CE)
  | cmp (o : CmpOp) (a b : CE)
  | chain (o p : CmpOp) (a b c : CE)
  | and (a b : CE)
  | or (a b : CE)
  | ite (c a b : CE)
  | tup (es : CEs)
  | lst (es : CEs)
  | dic (ks : List D) (vs : CEs)
  | idx (a b : CE)
  | slc (a : CE) (l h : CEs)
  | isi (a : CE) (t : String)
  | bi (f : String) (es : CEs)
  | call (f : Str) (es : CEs) (ps : List PA)
  | meth (m : String) (a : CE) (es : CEs)
  | mut (m : String) (i : Nat) (es : CEs)
  | ext (i : Nat) (e : CE)
  | comp (ow : List Nat) (tg : CT) (it : CI) (ifs : CEs) (e : CE)
  | upd (i : Nat) (e : CE)
  | lzip (a b : CE)
  | gen (ow : List Nat) (tg : CT) (it : CI) (ifs : CEs) (a : CA)
inductive CEs where
  | nil
  | cons (e : CE) (r : CEs)
inductive CI where
  | v (e : CE)
  | rng1 (a : CE)
  | rng2 (a b : CE)
  | zip (st : Bool) (a b : CE)
/-- what a comprehension's turn does -/
inductive CA where
  | lst (e : CE)
  | dic (k v : CE)
  | into (ow : List Nat) (tg : CT) (it : CI) (ifs : CEs) (a : CA)
end
mutual
inductive CS where
  | ret (e : CE)
  | retN
  | ex (e : CE)
  | set (i : Nat) (e : CE)
  | tset (tg : CT) (e : CE)
  | sset (pre : List Nat) (m : Nat) (post : List Nat) (e : CE)
  | nev
  | par (i j : Nat) (a b : CE)
  | dput (i : Nat) (k v : CE)
  | ife (c : CE) (a b : CSs)
  | for_ (tg : CT) (it : CI) (b : CSs)
  | whl (c : CE) (b : CSs)
  | pss
  | brk
  | ct
inductive CSs where
  | nil
  | cons (s : CS) (r : CSs)
end

/-! ### the evaluator -/
def wipeS (s : Ev) : List Nat → Ev
  | [] => s
  | i :: r => (wipeS s r).set i .emp
/-- the slots of a comprehension's own names as they were -/
def backS (s0 : Ev) (s : Ev) : List Nat → Ev
  | [] => s
  | i :: r => (backS s0 s r).set i ((s0[i]?).getD .emp)
def isOwn : Option Sl → Bool
  | some (.own _) => true
  | some (.io _) => true
  | _ => false
def isIo : Option Sl → Bool
  | some (.io _) => true
  | _ => false
/-- a value goes to a slot -/
def putS (i : Nat) (x : Sl) (s : Ev) : Rs Unit := if decide (i < s.length) && !isIo s[i]? then .ok () (s.set i x) else .stuck
def putV (i : Nat) (v : RV) (s : Ev) : Rs Unit :=
  match v with
  | .own o => putS i (.own o) s
  | v => (frz v s).bind fun d s => putS i (.val d) s
def bindAll : List Nat → List D → Ev → Rs Unit
  | [], [], s => .ok () s
  | i :: is, d :: ds, s => (putS i (.val d) s).bind fun _ s => bindAll is ds s
  | _, _, _ => .stuck
def bindT (tg : CT) (d : D) (s : Ev) : Rs Unit :=
  match tg with
  | .nm i => putS i (.val d) s
  | .tup is => match d with
    | .tuple ds => bindAll is ds s
    | _ => .stuck
def ownAt (s : Ev) (i : Nat) : Option Ob :=
  match s[i]? with
  | some (.own o) => some o
  | some (.io o) => some o
  | _ => none
/-- a value for a call: no owned object -/
def getV (s : Ev) : Opd → Option D
  | .d x => some x
  | .sl i => match s[i]? with
    | some (.val x) => some x
    | _ => none
/-- the owned objects that go as values are values from now on -/
def frzA (os : List Opd) : List PA → Ev → Ev
  | [], s => s
  | .pos k :: r, s => match os[k]? with
    | some (.sl i) => match s[i]? with
      | some (.own o) => frzA os r (s.set i (.val o.toD))
      | _ => frzA os r s
    | _ => frzA os r s
  | _ :: r, s => frzA os r s
def argsOf (s : Ev) (os : List Opd) : List PA → Option (List AV)
  | [] => some []
  | .pos k :: r => match (os[k]?).bind (getV s), argsOf s os r with
    | some d, some as => some (.d d :: as)
    | _, _ => none
  | .dfl d :: r => (argsOf s os r).map (.d d :: ·)
  | .io k :: r => match os[k]?, argsOf s os r with
    | some (.sl i), some as => (ownAt s i).map fun o => .io o :: as
    | _, _ => none
/-- the slot that is lent -/
def lentOf (os : List Opd) : List PA → Option Nat
  | [] => none
  | .io k :: _ => match os[k]? with
    | some (.sl i) => some i
    | _ => none
  | _ :: r => lentOf os r
/-- no reference within -/
def flatR : RV → Bool
  | .d .none => true
  | .d (.bool _) => true
  | .d (.int _) => true
  | .d (.str _) => true
  | _ => false
def setOb (s : Ev) (i : Nat) (o : Ob) : Ev :=
  match s[i]? with
  | some (.io _) => s.set i (.io o)
  | _ => s.set i (.own o)
def outTo (s : Ev) (l : Option Nat) (out : Option Ob) : Option Ev :=
  match l, out with
  | none, none => some s
  | some i, some o => some (setOb s i o)
  | _, _ => none
def tgIn (ow : List Nat) : CT → Bool
  | .nm i => ow.contains i
  | .tup is => is.all ow.contains
def wipeC (ow : List Nat) (s : Ev) : Rs Unit := if ow.any (fun i => isOwn s[i]?) then .stuck else .ok () (wipeS s ow)
/-- the turns of a comprehension: each starts with the own slots forgotten -/
def compL (ow : List Nat) (tg : CT) (tests : Ev → Rs Bool) (elt : Ev → Rs D) : List D → List D → Ev → Rs (List D)
  | [], acc, s => .ok acc s
  | x :: r, acc, s => (bindT tg x s).bind fun _ s => (tests s).bind fun b s => match b with
    | true => (elt s).bind fun d s => if acc.length < sizeLine then (wipeC ow s).bind fun _ s => compL ow tg tests elt r (acc ++ [d]) s else .stuck
    | false => (wipeC ow s).bind fun _ s => compL ow tg tests elt r acc s
/-- turns of any kind: act changes what is filled -/
def compO (ow : List Nat) (tg : CT) (tests : Ev → Rs Bool) (act : Ob → Ev → Rs Ob) : List D → Ob → Ev → Rs Ob
  | [], acc, s => .ok acc s
  | x :: r, acc, s => (bindT tg x s).bind fun _ s => (tests s).bind fun b s => match b with
    | true => (act acc s).bind fun acc s => (wipeC ow s).bind fun _ s => compO ow tg tests act r acc s
    | false => (wipeC ow s).bind fun _ s => compO ow tg tests act r acc s
def noX {α : Type} : Rs α → Rs α
  | .er _ _ => .stuck
  | r => r
def frzL : List RV → Ev → Rs (List D)
  | [], s => .ok [] s
  | x :: r, s => (frz x s).bind fun d s => (frzL r s).bind fun ds s => .ok (d :: ds) s
/-- a comprehension's new thing -/
def newA : CA → Ob
  | .lst _ => .lst []
  | .dic _ _ => .dic []
  | .into _ _ _ _ a => newA a
mutual
def ev (O : Ora) : CE → Ev → Rs RV
  | .con d, s => .ok (.d d) s
  | .var i, s => match s[i]? with
    | some (.val d) => .ok (.d d) s
    | some (.own _) => .ok (.sl i) s
    | some (.io _) => .ok (.sl i) s
    | _ => .stuck
  | .glob x, s => Rs.opt ((O.G x).map RV.d) s
  | .bin o a b, s => (ev O a s).bind fun x s => (ev O b s).bind fun y s => match x.opd.get s, y.opd.get s with
    | some x, some y => Rs.opt (binD o x y) s
    | _, _ => .stuck
  | .rep a b, s => (ev O a s).bind fun x s => match x with
    | .own (.lst xs) => (ev O b s).bind fun y s => match y.opd.get s with
      | some (.int k) => if -(2 ^ 63) ≤ k && k < 2 ^ 63 && xs.length * k.toNat ≤ sizeLine then .ok (.own (.lst (repD xs k))) s else .stuck
      | _ => .stuck
    | _ => .stuck
  | .neg a, s => (ev O a s).bind fun x s => match x with
    | .d (.int i) => .ok (.d (.int (-i))) s
    | _ => .stuck
  | .not a, s => (ev O a s).bind fun x s => Rs.opt (((x.opd.get s).bind truD).map fun b => .d (.bool (!b))) s
  | .cmp o a b, s => (ev O a s).bind fun x s => (ev O b s).bind fun y s => match x.opd.get s, y.opd.get s with
    | some x, some y => Rs.opt ((cmpD o x y).map fun c => .d (.bool c)) s
    | _, _ => .stuck
  | .chain o p a b c, s => (ev O a s).bind fun x s => (ev O b s).bind fun y s => match x.opd.get s, y.opd.get s with
    | some x', some y' => match cmpD o x' y' with
      | some true => (ev O c s).bind fun z s => match y.opd.get s, z.opd.get s with
        | some y, some z => Rs.opt ((cmpD p y z).map fun c => .d (.bool c)) s
        | _, _ => .stuck
      | some false => .ok (.d (.bool false)) s
      | none => .stuck
    | _, _ => .stuck
  | .and a b, s => (ev O a s).bind fun x s => match (x.opd.get s).bind truD with
    | some true => ev O b s
    | some false => .ok x s
    | none => .stuck
  | .or a b, s => (ev O a s).bind fun x s => match (x.opd.get s).bind truD with
    | some true => .ok x s
    | some false => ev O b s
    | none => .stuck
  | .ite c a b, s => (ev O c s).bind fun x s => match (x.opd.get s).bind truD with
    | some true => ev O a s
    | some false => ev O b s
    | none => .stuck
  | .tup es, s => (evs O es s).bind fun vs s => (frzL vs s).bind fun ds s => if ds.length ≤ sizeLine then .ok (.d (.tuple ds)) s else .stuck
  | .lst es, s => (evs O es s).bind fun vs s => (frzL vs s).bind fun ds s => if ds.length ≤ sizeLine then .ok (.own (.lst ds)) s else .stuck
  | .dic ks vs, s => (evs O vs s).bind fun vs s => (frzL vs s).bind fun ds s => if ks.all keyOk && decide (ks.length = ds.length) && decide (ks.length ≤ 15) then .ok (.own (.dic (mergeD [] (ks.zip ds)))) s else .stuck
  | .idx a b, s => (ev O a s).bind fun x s => (ev O b s).bind fun y s => match x.opd.get s, y.opd.get s with
    | some x, some y => Rs.opt ((idxD x y).map RV.d) s
    | _, _ => .stuck
  | .slc a l h, s => (ev O a s).bind fun x s => (evs O l s).bind fun y s => match (getAll s (y.map RV.opd)).bind partD with
    | some lo => (evs O h s).bind fun z s => match x.opd.get s, (getAll s (z.map RV.opd)).bind partD with
      | some x, some hi => Rs.opt (slcD x lo hi) s
      | _, _ => .stuck
    | none => .stuck
  | .isi a t, s => (ev O a s).bind fun x s => Rs.opt (((x.opd.get s).bind fun d => isiD d t).map fun c => .d (.bool c)) s
  | .bi f es, s => (evs O es s).bind fun os s => Rs.opt ((getAll s (os.map RV.opd)).bind (biD f)) s
  | .call f es ps, s => (evs O es s).bind fun os s => match argsOf (frzA (os.map RV.opd) ps s) (os.map RV.opd) ps with
    | some as => match O.Φ f as with
      | .ok v out => match outTo (frzA (os.map RV.opd) ps s) (lentOf (os.map RV.opd) ps) out with
        | some s' => if flatR v && (lentOf (os.map RV.opd) ps).isNone then .ok v s else .ok v s'
        | none => .stuck
      | .er x out => match outTo (frzA (os.map RV.opd) ps s) (lentOf (os.map RV.opd) ps) out with
        | some s' => .er x s'
        | none => .stuck
      | .stuck => .stuck
    | none => .stuck
  | .meth m a es, s => (ev O a s).bind fun x s => if (x.opd.get s).map (mtOf m) != some true then .stuck else (evs O es s).bind fun os s => (if m == "get" then frzL os s else Rs.opt (getAll s (os.map RV.opd)) s).bind fun ds s => match x.opd.get s with
    | some x => Rs.opt (methD m x ds) s
    | none => .stuck
  | .mut m i es, s => if !isLst (ownAt s i) then .stuck else (evs O es s).bind fun os s => (frzL os s).bind fun ds s => match ownAt s i with
    | some (.lst xs) => match mutD m (.lst xs) ds with
      | some (d, o') => .ok (.d d) (setOb s i o')
      | none => .stuck
    | _ => .stuck
  | .ext i e, s => if !isLst (ownAt s i) then .stuck else (ev O e s).bind fun x s => match x, ownAt s i with
    | .own (.lst ys), some (.lst xs) => if xs.length + ys.length ≤ sizeLine then .ok (.d .none) (setOb s i (.lst (xs ++ ys))) else .stuck
    | _, _ => .stuck
  | .comp ow tg it ifs e, s => (evI O it s).bind fun xs s0 => if !tgIn ow tg then .stuck else (wipeC ow s0).bind fun _ s =>
    noX ((compL ow tg (fun s => evT O ifs s) (fun s => (ev O e s).bind frz) xs [] s).bind fun acc s' => .ok (.own (.lst acc)) (backS s0 s' ow))
  | .upd i e, s => if !isDic (ownAt s i) then .stuck else (ev O e s).bind fun x s => (frz x s).bind fun d s => match d, ownAt s i with
    | .dict more, some (.dic kvs) => if !isFnB more && decide (kvs.length + more.length ≤ sizeLine) then .ok (.d .none) (setOb s i (.dic (mergeD kvs more))) else .stuck
    | _, _ => .stuck
  | .lzip a b, s => (ev O a s).bind fun x s => (frz x s).bind fun x s => (ev O b s).bind fun y s => (frz y s).bind fun y s => match seqD x, seqD y with
    | some xs, some ys => if xs.length == ys.length then .ok (.own (.lst (zipD xs ys))) s else .stuck
    | _, _ => .stuck
  | .gen ow tg it ifs a, s => (evI O it s).bind fun xs s0 => if !tgIn ow tg then .stuck else (wipeC ow s0).bind fun _ s =>
    noX ((compO ow tg (fun s => evT O ifs s) (fun acc s => evA O a acc s) xs (newA a) s).bind fun acc s' => .ok (.own acc) (backS s0 s' ow))
def evs (O : Ora) : CEs → Ev → Rs (List RV)
  | .nil, s => .ok [] s
  | .cons e r, s => (ev O e s).bind fun x s => (evs O r s).bind fun vs s => .ok (x :: vs) s
/-- tests one behind another -/
def evT (O : Ora) : CEs → Ev → Rs Bool
  | .nil, s => .ok true s
  | .cons e r, s => (ev O e s).bind fun x s => match (x.opd.get s).bind truD with
    | some true => evT O r s
    | some false => .ok false s
    | none => .stuck
def evI (O : Ora) : CI → Ev → Rs (List D)
  | .v e, s => (ev O e s).bind fun x s => (frz x s).bind fun d s => Rs.opt (itemsD d) s
  | .rng1 a, s => (ev O a s).bind fun x s => match x.opd.get s with
    | some (.int j) => if -(2 ^ 62) ≤ j && j < 2 ^ 62 then .ok ((List.range j.toNat).map fun (k : Nat) => PyData.int (k : Int)) s else .stuck
    | _ => .stuck
  | .rng2 a b, s => (ev O a s).bind fun x s => (ev O b s).bind fun y s => match x.opd.get s, y.opd.get s with
    | some (.int i), some (.int j) => if -(2 ^ 62) ≤ i && i < 2 ^ 62 && -(2 ^ 62) ≤ j && j < 2 ^ 62 then .ok ((List.range (j - i).toNat).map fun (k : Nat) => PyData.int (i + (k : Int))) s else .stuck
    | _, _ => .stuck
  | .zip st a b, s => (ev O a s).bind fun x s => (frz x s).bind fun x s => (ev O b s).bind fun y s => (frz y s).bind fun y s => match seqD x, seqD y with
    | some xs, some ys => if !st || xs.length == ys.length then .ok (zipD xs ys) s else .stuck
    | _, _ => .stuck
def evA (O : Ora) : CA → Ob → Ev → Rs Ob
  | .lst e, acc, s => match acc with
    | .lst ys => ((ev O e s).bind frz).bind fun d s => if ys.length < sizeLine then .ok (.lst (ys ++ [d])) s else .stuck
    | _ => .stuck
  | .dic k v, acc, s => match acc with
    | .dic kvs => ((ev O k s).bind frz).bind fun dk s => ((ev O v s).bind frz).bind fun dv s => if keyOk dk && decide (kvs.length < sizeLine) then .ok (.dic (putD dk dv kvs)) s else .stuck
    | _ => .stuck
  | .into ow tg it ifs a, acc, s => (evI O it s).bind fun xs s => if !tgIn ow tg then .stuck else (wipeC ow s).bind fun _ s => compO ow tg (fun s => evT O ifs s) (fun acc s => evA O a acc s) xs acc s
end
def forL (bind : D → Ev → Rs Unit) (body : Ev → Rs Fl) : List D → Ev → Rs Fl
  | [], s => .ok .nx s
  | x :: r, s => (bind x s).bind fun _ s => (body s).bind fun f s => match f with
    | .nx => forL bind body r s
    | .ct => forL bind body r s
    | .brk => .ok .nx s
    | .ret v => .ok (.ret v) s
def retV (v : RV) (s : Ev) : Rs Fl :=
  match v with
  | .own o => .ok (.ret (.own o)) s
  | .d d => .ok (.ret (.d d)) s
  | .sl i => match s[i]? with
    | some (.own o) => .ok (.ret (.own o)) (s.set i .emp)
    | some (.val d) => .ok (.ret (.d d)) s
    | _ => .stuck
def evB (O : Ora) (c : CE) (s : Ev) : Rs Bool := (ev O c s).bind fun x s => Rs.opt ((x.opd.get s).bind truD) s
mutual
def exS (O : Ora) : CS → Ev → Rs Fl
  | .ret e, s => (ev O e s).bind retV
  | .retN, s => .ok (.ret (.d .none)) s
  | .ex e, s => (ev O e s).bind fun _ s => .ok .nx s
  | .set i e, s => (ev O e s).bind fun v s => (putV i v s).bind fun _ s => .ok .nx s
  | .tset tg e, s => (ev O e s).bind fun v s => (frz v s).bind fun d s => (bindT tg d s).bind fun _ s => .ok .nx s
  | .sset pre m post e, s => (ev O e s).bind fun v s => (frz v s).bind fun d s => match seqD d with
    | some xs => if pre.length + post.length ≤ xs.length then (bindAll pre (xs.take pre.length) s).bind fun _ s =>
        (putS m (.own (.lst ((xs.drop pre.length).take (xs.length + 1 - (pre.length + 1 + post.length))))) s).bind fun _ s =>
        (bindAll post ((xs.drop pre.length).drop (xs.length + 1 - (pre.length + 1 + post.length))) s).bind fun _ s => .ok .nx s else .stuck
    | none => .stuck
  | .nev, _ => .stuck
  | .par i j a b, s => (ev O a s).bind fun x s => (stl x s).bind fun x s => (ev O b s).bind fun y s => (stl y s).bind fun y s => (putV i x s).bind fun _ s => (putV j y s).bind fun _ s => .ok .nx s
  | .dput i k v, s => (ev O v s).bind fun x s => (frz x s).bind fun x s => if (ownAt s i).isNone then .stuck else (ev O k s).bind fun y s => (frz y s).bind fun y s => match ownAt s i with
    | some o => match mutD "setitem" o [y, x] with
      | some (_, o') => .ok .nx (setOb s i o')
      | none => .stuck
    | none => .stuck
  | .ife c a b, s => (evB O c s).bind fun t s => if t then exB O a s else exB O b s
  | .for_ tg it b, s => (evI O it s).bind fun xs s => forL (bindT tg) (fun s => exB O b s) xs s
  | .whl c b, s => O.Λ (fun s => evB O c s) (fun s => exB O b s) s
  | .pss, s => .ok .nx s
  | .brk, s => .ok .brk s
  | .ct, s => .ok .ct s
def exB (O : Ora) : CSs → Ev → Rs Fl
  | .nil, s => .ok .nx s
  | .cons a r, s => (exS O a s).bind fun f s => match f with
    | .nx => exB O r s
    | f => .ok f s
end

/-! ### defs -/
structure FD where
  n : Nat
  ps : Nat
  io : Option Nat
  body : CSs
def slOf : AV → Sl
  | .d d => .val d
  | .io o => .io o
def outOf (s : Ev) (io : Option Nat) : Option Ob := io.bind (ownAt s)
def ioFits (as : List AV) (io : Option Nat) : Bool := (match io with | none => true | some j => decide (j < as.length)) && (List.range as.length).all fun i => match as[i]? with
  | some (.io _) => io == some i
  | _ => io != some i
def startS (n : Nat) (as : List AV) : Ev := as.map slOf ++ List.replicate (n - as.length) .emp
def endF (io : Option Nat) : Rs Fl → FR
  | .ok (.ret v) s => .ok v (outOf s io)
  | .ok .nx s => .ok (.d .none) (outOf s io)
  | .er x s => .er x (outOf s io)
  | _ => .stuck
/-- the program: its defs, loops, constants -/
structure Prog where
  fs : Str → Option FD
  Λ : (Ev → Rs Bool) → (Ev → Rs Fl) → Ev → Rs Fl
  G : Str → Option D
def run (p : Prog) : Nat → Str → List AV → FR
  | 0, _, _ => .stuck
  | k + 1, f, as => match p.fs f with
    | some fd => if decide (as.length = fd.ps) && decide (fd.ps ≤ fd.n) && ioFits as fd.io then endF fd.io (exB ⟨run p k, p.Λ, p.G⟩ fd.body (startS fd.n as)) else .stuck
    | none => .stuck
/-- a loop with fuel (to try things) -/
def whileN (n : Nat) (c : Ev → Rs Bool) (b : Ev → Rs Fl) (s : Ev) : Rs Fl :=
  match n with
  | 0 => .stuck
  | n + 1 => (c s).bind fun t s => if t then (b s).bind fun f s => match f with
    | .nx => whileN n c b s
    | .ct => whileN n c b s
    | .brk => .ok .nx s
    | .ret v => .ok (.ret v) s
    else .ok .nx s
open Classical in
/-- a loop: some fuel is enough -/
noncomputable def whileW (c : Ev → Rs Bool) (b : Ev → Rs Fl) (s : Ev) : Rs Fl := if h : ∃ n, whileN n c b s ≠ .stuck then whileN (Classical.choose h) c b s else .stuck
end GS

/-! GS1: from the model's text to the core language. -/
namespace GS
open PySem

def dfOk : PA → Bool
  | .dfl d => match d with | .none => true | .bool _ => true | .int _ => true | .str x => PyData.strOk x && decide (x.length ≤ sizeLine) | _ => false
  | _ => true
structure Sig where
  ps : List Str
  npos : Nat
  dfl : List (Option D)
  io : Option Nat
structure Tabs where
  /-- own defs -/
  sig : List (Str × Sig)
  /-- the calls whose binding is shown: how many positional values, which keywords -/
  pats : List (Str × Nat × List Str)
  /-- built-in names that the module does not bind -/
  free : List Str
  /-- constants of the module -/
  con : List Str
structure Scp where
  sc : Scope
  fn : Str → Bool

def visB (sc : Scope) (x : Str) : Bool :=
  match sc.names.lookup x with
  | some .local => true
  | some .cell => true
  | some .free => true
  | _ => false
def locB (S : Scp) (x : Str) : Bool :=
  match S.sc.names.lookup x with
  | some .local => true
  | some .cell => S.fn x
  | _ => false
def glB (sc : Scope) (x : Str) : Bool := sc.names.lookup x == some .globalImplicit
def plainN (x : Str) : Bool := (x == ("__debug__" : Str)) == false && (x == ("__classdict__" : Str)) == false && (x == ("__name__" : Str)) == false
/-- a name's slot -/
def slotOf (N : List Str) (S : Scp) (x : Str) : Option Nat := if visB S.sc x && plainN x then N.idxOf? x else none
def tgtOf (N : List Str) (S : Scp) (x : Str) : Option Nat := if locB S x && plainN x then N.idxOf? x else none
def trTgts (N : List Str) (S : Scp) : List Expr → Option (List Nat)
  | [] => some []
  | .Name x _ :: r => match tgtOf N S x, trTgts N S r with
    | some i, some is => some (i :: is)
    | _, _ => none
  | _ => none
def trTgt (N : List Str) (S : Scp) : Expr → Option CT
  | .Name x _ => (tgtOf N S x).map .nm
  | .Tuple es _ _ => (trTgts N S es).map .tup
  | _ => none
def conD : Const → Option D
  | .none => some .none
  | .bool b => some (.bool b)
  | .int i => some (.int i)
  | .str s => if PyData.strOk s && decide (s.length ≤ sizeLine) then some (.str s) else none
  | _ => none
def kwNames : List Keyword → Option (List Str)
  | [] => some []
  | ⟨some x, _, _⟩ :: r => (kwNames r).map (x :: ·)
  | _ => none
def permOf (g : Sig) (m : Nat) (ks : List Str) : Option (List PA) :=
  if decide (m ≤ g.npos) && ks.all (fun k => g.ps.contains k && decide (m ≤ g.ps.idxOf k)) then
    (List.range g.ps.length).mapM fun j =>
      if j < m then some (if g.io = some j then PA.io j else PA.pos j)
      else match ks.idxOf? (g.ps.getD j default) with
        | some k => some (if g.io = some j then PA.io (m + k) else PA.pos (m + k))
        | none => (g.dfl.getD j none).map PA.dfl
  else none
/-- the own names of a comprehension's block, with their slots -/
def ownOf (N : List Str) (scope : Scope) : List (Str × Nat) := scope.names.filterMap fun y => match y.2 with
  | .local => (N.idxOf? y.1).map fun i => (y.1, i)
  | .cell => (N.idxOf? y.1).map fun i => (y.1, i)
  | _ => none
def biNames : List String := ["len", "all", "any", "sum", "min", "max", "abs", "int", "str", "list", "tuple", "repr", "bool", "sorted", "dict"]
def methNames : List String := ["startswith", "join", "get", "index", "endswith", "find", "count", "split"]
def mutNames : List String := ["append", "pop"]
def tyNames : List String := ["int", "bool", "str", "list", "tuple", "dict"]
def nameIn (x : Str) (l : List String) : Option String := l.find? fun s => x == Str.ofString s
/-- not super() -/
def noCall0 : Expr → Bool
  | .Call _ [] [] _ => false
  | _ => true
def isiArgs : List Expr → Option (Expr × Str)
  | [a, .Name t _] => some (a, t)
  | _ => none
def nameOf : Expr → Option Str
  | .Name y _ => some y
  | _ => none
def isMul : Operator → Bool
  | .Mult => true
  | _ => false
/-- a list just made -/
def isNewL : Expr → Bool
  | .List .. => true
  | .ListComp .. => true
  | .Subscript _ (.Slice ..) _ => true
  | _ => false
/-- zip is walked to a tuple of names -/
def ciOk (tg : Expr) (it : CI) : Bool :=
  match it with
  | .zip .. => match tg with
    | .Tuple .. => true
    | _ => false
  | _ => true
def CT.slots : CT → List Nat
  | .nm i => [i]
  | .tup is => is
/-- zip(a, b), zip(a, b, strict=True) -/
def zipKw : List Keyword → Option Bool
  | [] => some false
  | [⟨some x, .Constant (.bool true) 0 _, _⟩] => if x == Str.ofString "strict" then some true else none
  | _ => none
/-- list(zip(a, b)) -/
def zipArgs : List Expr → Option (Str × Expr × Expr)
  | [.Call (.Name z _) [a, b] [] _] => some (z, a, b)
  | _ => none
def oneOf : List Expr → Option Expr
  | [a] => some a
  | _ => none
def twoOf : List Expr → Option (Expr × Expr)
  | [a, b] => some (a, b)
  | _ => none
def unStarred (es : List Expr) : Bool := es.all fun | .Starred _ _ => false | _ => true
mutual
def trE (T : Tabs) (N : List Str) : Nat → Scp → Expr → Option CE
  | 0, _, _ => none
  | n + 1, S, e => match e with
    | .Constant c _ _ => (conD c).map .con
    | .Name x _ => match slotOf N S x with
      | some i => some (.var i)
      | none => if glB S.sc x && plainN x && T.con.contains x then some (.glob x) else none
    | .BinOp a op b _ => match trE T N n S a, trE T N n S b with
      | some ca, some cb => some (if isMul op && isNewL a then .rep ca cb else .bin op ca cb)
      | _, _ => none
    | .UnaryOp .USub a _ => (trE T N n S a).map .neg
    | .UnaryOp .Not a _ => (trE T N n S a).map .not
    | .BoolOp _ [a] _ => trE T N n S a
    | .BoolOp .And (a :: b :: r) p => match trE T N n S a, trE T N n S (.BoolOp .And (b :: r) p) with
      | some a, some b => some (.and a b)
      | _, _ => none
    | .BoolOp .Or (a :: b :: r) p => match trE T N n S a, trE T N n S (.BoolOp .Or (b :: r) p) with
      | some a, some b => some (.or a b)
      | _, _ => none
    | .Compare a [op] [b] _ => match trE T N n S a, trE T N n S b with
      | some a, some b => some (.cmp op a b)
      | _, _ => none
    | .Compare a [op, op'] [b, c] _ => match trE T N n S a, trE T N n S b, trE T N n S c with
      | some a, some b, some c => some (.chain op op' a b c)
      | _, _, _ => none
    | .IfExp c a b _ => match trE T N n S c, trE T N n S a, trE T N n S b with
      | some c, some a, some b => some (.ite c a b)
      | _, _, _ => none
    | .Tuple es _ _ => (trEs T N n S es).map .tup
    | .List es _ => (trEs T N n S es).map .lst
    | .Dict ks vs _ => match trKs ks, trEs T N n S vs with
      | some es, some fs => if ks.length == vs.length && decide (ks.length ≤ 15) then some (.dic es fs) else none
      | _, _ => none
    | .Subscript a (.Slice l h none _) _ => match trE T N n S a, trO T N n S l, trO T N n S h with
      | some a, some l, some h => some (.slc a l h)
      | _, _, _ => none
    | .Subscript a b _ => match trE T N n S a, trE T N n S b with
      | some a, some b => some (.idx a b)
      | _, _ => none
    | .ListComp elt [⟨tg, iter, ifs, 0⟩] scope _ =>
      let own := ownOf N scope
      let S' : Scp := ⟨L2.relS scope S.sc, fun x => scope.names.lookup x == some .cell⟩
      if L2.blkC N S.sc scope own && decide (ifs.length ≤ 1) then
        match trTgt N S' tg, trI T N n S iter, trEs T N n S' ifs, trE T N n S' elt with
        | some ct, some it, some ifs, some elt => if ciOk tg it then some (.comp (own.map (·.2)) ct it ifs elt) else none
        | _, _, _, _ => none
      else none
    | .DictComp kx vx [⟨tg, iter, ifs, 0⟩] scope _ =>
      let own := ownOf N scope
      let S' : Scp := ⟨L2.relS scope S.sc, fun x => scope.names.lookup x == some .cell⟩
      if L2.blkC N S.sc scope own && decide (ifs.length ≤ 1) then
        match trTgt N S' tg, trI T N n S iter, trEs T N n S' ifs, trE T N n S' kx, trE T N n S' vx with
        | some ct, some it, some ifs, some kx, some vx => if ciOk tg it then some (.gen (own.map (·.2)) ct it ifs (.dic kx vx)) else none
        | _, _, _, _, _ => none
      else none
    | .ListComp elt [⟨tg, iter, ifs, 0⟩, ⟨tg1, iter1, ifs1, 0⟩] scope _ =>
      let own := ownOf N scope
      let S' : Scp := ⟨L2.relS scope S.sc, fun x => scope.names.lookup x == some .cell⟩
      if L2.blkC N S.sc scope own && decide (ifs.length ≤ 1) && decide (ifs1.length ≤ 1) then
        match trTgt N S' tg, trI T N n S iter, trEs T N n S' ifs, trTgt N S' tg1, trI T N n S' iter1, trEs T N n S' ifs1, trE T N n S' elt with
        | some ct, some it, some ifs, some ct1, some it1, some ifs1, some elt =>
          if ciOk tg it && ciOk tg1 it1 && ct1.slots.all (own.map (·.2)).contains then some (.gen (own.map (·.2)) ct it ifs (.into ct1.slots ct1 it1 ifs1 (.lst elt))) else none
        | _, _, _, _, _, _, _ => none
      else none
    | .DictComp kx vx [⟨tg, iter, ifs, 0⟩, ⟨tg1, iter1, ifs1, 0⟩] scope _ =>
      let own := ownOf N scope
      let S' : Scp := ⟨L2.relS scope S.sc, fun x => scope.names.lookup x == some .cell⟩
      if L2.blkC N S.sc scope own && decide (ifs.length ≤ 1) && decide (ifs1.length ≤ 1) then
        match trTgt N S' tg, trI T N n S iter, trEs T N n S' ifs, trTgt N S' tg1, trI T N n S' iter1, trEs T N n S' ifs1, trE T N n S' kx, trE T N n S' vx with
        | some ct, some it, some ifs, some ct1, some it1, some ifs1, some kx, some vx =>
          if ciOk tg it && ciOk tg1 it1 && ct1.slots.all (own.map (·.2)).contains then some (.gen (own.map (·.2)) ct it ifs (.into ct1.slots ct1 it1 ifs1 (.dic kx vx))) else none
        | _, _, _, _, _, _, _, _ => none
      else none
    | .Call (.Name x _) args kws pos =>
      if glB S.sc x && plainN x then
        match T.sig.lookup x with
        | some g => match kwNames kws, trEs T N n S args, trKws T N n S kws with
          | some ks, some es, some fs => if T.pats.contains (x, args.length, ks) && (!args.isEmpty || kws.isEmpty) then (permOf g args.length ks).bind fun ps => if ps.all dfOk then some (.call x (appE es fs) ps) else none else none
          | _, _, _ => none
        | none => if T.free.contains x && kws.isEmpty then
            if x == Str.ofString "isinstance" then
              match isiArgs args with
              | some (a, t) => match nameIn t tyNames, trE T N n S a with
                | some ty, some a => if T.free.contains t && glB S.sc t && plainN t then some (.isi a ty) else none
                | _, _ => none
              | none => none
            else if x == Str.ofString "list" && (zipArgs args).isSome then
              match zipArgs args with
              | some (z, a, b) => match trE T N n S a, trE T N n S b with
                | some a, some b => if z == Str.ofString "zip" && T.free.contains z && glB S.sc z && plainN z then some (.lzip a b) else none
                | _, _ => none
              | none => none
            else match nameIn x biNames, trEs T N n S args with
              | some f, some es => if args.isEmpty then none else some (.bi f es)
              | _, _ => none
          else none
      else none
    | .Call (.Attribute o m apos) args [] pos =>
      if apos.endLine == pos.line then
        if m == Str.ofString "extend" then match (nameOf o).bind (slotOf N S), (oneOf args).bind (trE T N n S) with
          | some i, some e => some (.ext i e)
          | _, _ => none
        else if m == Str.ofString "update" then match (nameOf o).bind (slotOf N S), (oneOf args).bind (trE T N n S) with
          | some i, some e => some (.upd i e)
          | _, _ => none
        else match nameIn m mutNames with
        | some m => match (nameOf o).bind (slotOf N S), trEs T N n S args with
            | some i, some es => if decide (args.length < 30) then some (.mut m i es) else none
            | _, _ => none
        | none => match nameIn m methNames, trE T N n S o, trEs T N n S args with
          | some m, some a, some es => if noCall0 o && !args.isEmpty && decide (args.length < 30) then some (.meth m a es) else none
          | _, _, _ => none
      else none
    | _ => none
def trEs (T : Tabs) (N : List Str) : Nat → Scp → List Expr → Option CEs
  | 0, _, _ => none
  | _ + 1, _, [] => some .nil
  | n + 1, S, e :: r => match trE T N n S e, trEs T N n S r with
    | some e, some r => some (.cons e r)
    | _, _ => none
def trKws (T : Tabs) (N : List Str) : Nat → Scp → List Keyword → Option CEs
  | 0, _, _ => none
  | _ + 1, _, [] => some .nil
  | n + 1, S, ⟨_, e, _⟩ :: r => match trE T N n S e, trKws T N n S r with
    | some e, some r => some (.cons e r)
    | _, _ => none
def trO (T : Tabs) (N : List Str) : Nat → Scp → Option Expr → Option CEs
  | 0, _, _ => none
  | _ + 1, _, none => some .nil
  | n + 1, S, some e => (trE T N n S e).map fun e => .cons e .nil
def trI (T : Tabs) (N : List Str) : Nat → Scp → Expr → Option CI
  | 0, _, _ => none
  | n + 1, S, e => match e with
    | .Call (.Name x _) args kws _ =>
      if x == Str.ofString "range" && kws.isEmpty then
        if glB S.sc x && T.free.contains x then
          match oneOf args with
          | some a => (trE T N n S a).map .rng1
          | none => match twoOf args with
            | some (a, b) => match trE T N n S a, trE T N n S b with
              | some a, some b => some (.rng2 a b)
              | _, _ => none
            | none => none
        else none
      else if x == Str.ofString "zip" then
        if glB S.sc x && T.free.contains x then
          match twoOf args, zipKw kws with
          | some (a, b), some st => match trE T N n S a, trE T N n S b with
            | some a, some b => some (.zip st a b)
            | _, _ => none
          | _, _ => none
        else none
      else (trE T N n S e).map .v
    | e => (trE T N n S e).map .v
def trKs : List (Option Expr) → Option (List D)
  | [] => some []
  | some (.Constant c _ _) :: r => match conD c, trKs r with
    | some d, some ds => if keyOk d then some (d :: ds) else none
    | _, _ => none
  | _ => none
def appE : CEs → CEs → CEs
  | .nil, f => f
  | .cons e r, f => .cons e (appE r f)
end
def isComp : Expr → Bool
  | .ListComp .. => true
  | .SetComp .. => true
  | .DictComp .. => true
  | _ => false
/-- targets ahead of the starred one, it, those behind it -/
def trStar (N : List Str) (S : Scp) : List Expr → Option (List Nat × Nat × List Nat)
  | .Starred (.Name x _) _ :: r => match tgtOf N S x, trTgts N S r with
    | some i, some is => some ([], i, is)
    | _, _ => none
  | .Name x _ :: r => match tgtOf N S x, trStar N S r with
    | some i, some (p, m, q) => some (i :: p, m, q)
    | _, _ => none
  | _ => none
def anyStar (es : List Expr) : Bool := es.any fun | .Starred _ _ => true | _ => false
def nodupB : List Nat → Bool
  | [] => true
  | i :: r => !r.contains i && nodupB r
def allLocal (sc : Scope) : List Expr → Bool
  | [] => true
  | .Name x _ :: r => sc.names.lookup x == some .local && allLocal sc r
  | _ => false
def sameLine : List Expr → Bool
  | .Name _ p :: r => r.all fun | .Name _ q => q.line == p.line | _ => false
  | _ => false
mutual
def trS (T : Tabs) (N : List Str) : Nat → Scp → Stmt → Option CS
  | 0, _, _ => none
  | n + 1, S, s => match s with
    | .Return none _ => some .retN
    | .Return (some e) _ => (trE T N n S e).map .ret
    | .Pass _ => some .pss
    | .Break _ => some .brk
    | .Continue _ => some .ct
    | .Expr e _ => if isComp e then none else (trE T N n S e).map .ex
    | .Assign [.Name x _] e _ => match tgtOf N S x, trE T N n S e with
      | some i, some e => some (.set i e)
      | _, _ => none
    | .Raise .. => some .nev
    | .Assign [.Tuple ts _ _] (.Tuple vs _ _) _ =>
      if ts.length == vs.length && ts.length == 2 && allLocal S.sc ts && sameLine ts && !vs.all (foldedForSure 8) && !vs.all (constantsAlone 8) then
        match trTgts N S ts, trEs T N n S vs with
        | some [i, j], some (.cons a (.cons b .nil)) => if i == j then none else some (.par i j a b)
        | _, _ => none
      else match trTgts N S ts, trEs T N n S vs with
        | some is, some es => if vs.all (foldedForSure 8) then some (.tset (.tup is) (.tup es))
          else if allLocal S.sc ts && sameLine ts then none else match is, es with
            | [i, j], .cons a (.cons b .nil) => if i == j then none else some (.par i j a b)
            | _, _ => none
        | _, _ => none
    | .Assign [.Tuple ts _ _] e _ => if anyStar ts then match trStar N S ts, trE T N n S e with
        | some (p, m, q), some e => some (.sset p m q e)
        | _, _ => none
      else match trTgts N S ts, trE T N n S e with
        | some is, some e => some (.tset (.tup is) e)
        | _, _ => none
    | .Assign [.Subscript (.Name y _) k _] e _ => match slotOf N S y, trE T N n S k, trE T N n S e with
        | some i, some k, some e => some (.dput i k e)
        | _, _, _ => none
    | .If c a b _ => match trE T N n S c, trB T N n S a, trB T N n S b with
      | some c, some a, some b => some (.ife c a b)
      | _, _, _ => none
    | .For tg it b [] _ => match trTgt N S tg, trI T N n S it, trB T N n S b with
      | some ct, some it, some b => if ciOk tg it then some (.for_ ct it b) else none
      | _, _, _ => none
    | .While c b [] _ => match trE T N n S c, trB T N n S b with
      | some c, some b => some (.whl c b)
      | _, _ => none
    | _ => none
def trB (T : Tabs) (N : List Str) : Nat → Scp → List Stmt → Option CSs
  | 0, _, _ => none
  | _ + 1, _, [] => some .nil
  | n + 1, S, a :: r => match trS T N n S a, trB T N n S r with
    | some a, some r => some (.cons a r)
    | _, _ => none
end
end GS

/-! GS2: what values stand for data; a frame's slots. -/
namespace GS
open PySem PySem.Spec PyProof.Rows L2

abbrev St := L2.St
def keyD : Key → D
  | .inl i => .int i
  | .inr x => .str x
/-- a list, a tuple of the written part: read with nothing tracked -/
abbrev KL (K : PySem.W.Frag) (a : Addr) (xs : List V) : Prop := SqL K (fun _ => none) a xs
abbrev KT' (K : PySem.W.Frag) (a : Addr) (xs : List V) : Prop := SqT K (fun _ => none) a xs
theorem no_rd {a : Addr} {u : HO} (h : Rd (fun _ => none) a u) : False := by
  rcases h with h | ⟨_, h⟩ <;> cases h
theorem KL.sq {K : PySem.W.Frag} {H : Hp} {a : Addr} {xs : List V} (h : KL K a xs) : SqL K H a xs := h.elim (fun z => (no_rd z).elim) .inr
theorem KT'.sq {K : PySem.W.Frag} {H : Hp} {a : Addr} {xs : List V} (h : KT' K a xs) : SqT K H a xs := h.elim (fun z => (no_rd z).elim) .inr
/-- a list, a tuple that nobody changes: tracked and not in W, or of the written part -/
def AtL (K : PySem.W.Frag) (W : Addr → Prop) (H : Hp) (a : Addr) (vs : List V) : Prop := (Rd H a (.lst vs) ∧ ¬ W a) ∨ KL K a vs
def AtT (K : PySem.W.Frag) (W : Addr → Prop) (H : Hp) (a : Addr) (vs : List V) : Prop := (Rd H a (.tup vs) ∧ ¬ W a) ∨ KT' K a vs
mutual
inductive Rep (K : PySem.W.Frag) (mg : Str → Option Value) (W : Addr → Prop) (H : Hp) : D → V → Prop
  | non : Rep K mg W H .none .non
  | bl (b : Bool) : Rep K mg W H (.bool b) (.bl b)
  | int (i : Int) : Rep K mg W H (.int i) (.int i)
  | str (x : Str) (h : PyData.strOk x = true) (l : x.length ≤ sizeLine) : Rep K mg W H (.str x) (.str x)
  | lst {a : Addr} {xs : List D} {vs : List V} (h : AtL K W H a vs) (r : RepA K mg W H xs vs) (l : xs.length ≤ sizeLine) : Rep K mg W H (.list xs) (.ref a)
  | tup {a : Addr} {xs : List D} {vs : List V} (h : AtT K W H a vs) (r : RepA K mg W H xs vs) (l : xs.length ≤ sizeLine) : Rep K mg W H (.tuple xs) (.ref a)
  | dic {a : Addr} {kvs : List (D × D)} {kws : List (Key × V)} (h : H a = some (.dK kws)) (n : ¬ W a) (k : kvs.map (·.1) = kws.map fun p => keyD p.1) (r : RepA K mg W H (kvs.map (·.2)) (kws.map (·.2))) (l : kvs.length ≤ sizeLine) : Rep K mg W H (.dict kvs) (.ref a)
  | fn {f : Str} {a : Addr} (h : mg f = some (.ref a)) : Rep K mg W H (fnD f) (.ref a)
inductive RepA (K : PySem.W.Frag) (mg : Str → Option Value) (W : Addr → Prop) (H : Hp) : List D → List V → Prop
  | nil : RepA K mg W H [] []
  | cons {d : D} {v : V} {ds : List D} {vs : List V} (h : Rep K mg W H d v) (r : RepA K mg W H ds vs) : RepA K mg W H (d :: ds) (v :: vs)
end

section
variable {K : PySem.W.Frag} {mg : Str → Option Value} {W W' : Addr → Prop} {H H' : Hp}
structure Keep (W : Addr → Prop) (H : Hp) (W' : Addr → Prop) (H' : Hp) : Prop where
  keep : ∀ a u, H a = some u → ¬ W a → H' a = some u
  own : ∀ a, W' a → W a ∨ H a = none
theorem Keep.refl : Keep W H W H := ⟨fun _ _ h _ => h, fun _ h => .inl h⟩
theorem Keep.rd {a : Addr} {u : HO} (k : Keep W H W' H') (h : Rd H a u) (n : ¬ W a) : Rd H' a u ∧ ¬ W' a := by
  rcases h with h | ⟨o, h⟩
  · exact ⟨.inl (k.keep _ _ h n), fun z => (k.own _ z).elim n (fun q => by rw [h] at q; cases q)⟩
  · exact ⟨.inr ⟨o, k.keep _ _ h n⟩, fun z => (k.own _ z).elim n (fun q => by rw [h] at q; cases q)⟩
theorem AtL.mv {a : Addr} {vs : List V} (k : Keep W H W' H') (h : AtL K W H a vs) : AtL K W' H' a vs := h.imp (fun h => k.rd h.1 h.2) id
theorem AtT.mv {a : Addr} {vs : List V} (k : Keep W H W' H') (h : AtT K W H a vs) : AtT K W' H' a vs := h.imp (fun h => k.rd h.1 h.2) id
mutual
theorem Rep.mv (k : Keep W H W' H') : ∀ {d : D} {v : V}, Rep K mg W H d v → Rep K mg W' H' d v
  | _, _, .non => .non
  | _, _, .bl b => .bl b
  | _, _, .int i => .int i
  | _, _, .str x h l => .str x h l
  | _, _, .lst h r l => .lst (h.mv k) (RepA.mv k r) l
  | _, _, .tup h r l => .tup (h.mv k) (RepA.mv k r) l
  | _, _, .dic h n e r l => .dic (k.keep _ _ h n) (fun z => (k.own _ z).elim n fun q => (by rw [h] at q; cases q)) e (RepA.mv k r) l
  | _, _, .fn h => .fn h
theorem RepA.mv (k : Keep W H W' H') : ∀ {ds : List D} {vs : List V}, RepA K mg W H ds vs → RepA K mg W' H' ds vs
  | _, _, .nil => .nil
  | _, _, .cons h r => .cons (Rep.mv k h) (RepA.mv k r)
end
theorem RepA.len : ∀ {ds : List D} {vs : List V}, RepA K mg W H ds vs → ds.length = vs.length
  | _, _, .nil => rfl
  | _, _, .cons _ r => congrArg Nat.succ (RepA.len r)
theorem RepA.get : ∀ {ds : List D} {vs : List V} {i : Nat} {d : D}, RepA K mg W H ds vs → ds[i]? = some d → ∃ v, vs[i]? = some v ∧ Rep K mg W H d v
  | _, _, _, _, .nil, e => by simp at e
  | _, _, 0, _, .cons h _, e => by simp at e; subst e; exact ⟨_, rfl, h⟩
  | _, _, i + 1, _, .cons _ r, e => by
    obtain ⟨v, h1, h2⟩ := RepA.get (i := i) r (by simpa using e)
    exact ⟨v, by simpa using h1, h2⟩
theorem RepA.append : ∀ {ds : List D} {vs : List V} {es : List D} {us : List V}, RepA K mg W H ds vs → RepA K mg W H es us → RepA K mg W H (ds ++ es) (vs ++ us)
  | _, _, _, _, .nil, q => q
  | _, _, _, _, .cons h r, q => .cons h (RepA.append r q)
theorem RepA.take : ∀ {ds : List D} {vs : List V} (n : Nat), RepA K mg W H ds vs → RepA K mg W H (ds.take n) (vs.take n)
  | _, _, 0, _ => .nil
  | _, _, _ + 1, .nil => .nil
  | _, _, n + 1, .cons h r => .cons h (RepA.take n r)
theorem RepA.drop : ∀ {ds : List D} {vs : List V} (n : Nat), RepA K mg W H ds vs → RepA K mg W H (ds.drop n) (vs.drop n)
  | _, _, 0, r => r
  | _, _, _ + 1, .nil => .nil
  | _, _, n + 1, .cons _ r => RepA.drop n r
theorem RepA.dropLast : ∀ {ds : List D} {vs : List V}, RepA K mg W H ds vs → RepA K mg W H ds.dropLast vs.dropLast := fun {ds vs} r => by
  have h := r.len
  rw [List.dropLast_eq_take, List.dropLast_eq_take, ← h]
  exact r.take _
theorem RepA.flat : ∀ {ds : List D} {vs : List V} (n : Nat), RepA K mg W H ds vs → RepA K mg W H (List.replicate n ds).flatten (List.replicate n vs).flatten
  | _, _, 0, _ => .nil
  | _, _, n + 1, r => by
    rw [List.replicate_succ, List.replicate_succ, List.flatten_cons, List.flatten_cons]
    exact r.append (RepA.flat n r)
theorem AtL.sq {a : Addr} {vs : List V} (h : AtL K W H a vs) : SqL K H a vs := h.elim (fun h => .inl h.1) KL.sq
theorem AtT.sq {a : Addr} {vs : List V} (h : AtT K W H a vs) : SqT K H a vs := h.elim (fun h => .inl h.1) KT'.sq

/-- an object that is owned: it stands at a by itself -/
inductive ObAt (K : PySem.W.Frag) (mg : Str → Option Value) (W : Addr → Prop) (H : Hp) (a : Addr) : Ob → Prop
  | lst {xs : List D} {vs : List V} (h : H a = some (.lst vs)) (r : RepA K mg W H xs vs) (l : xs.length ≤ sizeLine) : ObAt K mg W H a (.lst xs)
  | dic {kvs : List (D × D)} {kws : List (Key × V)} (h : H a = some (.dK kws)) (k : kvs.map (·.1) = kws.map fun p => keyD p.1) (r : RepA K mg W H (kvs.map (·.2)) (kws.map (·.2))) (l : kvs.length ≤ sizeLine) : ObAt K mg W H a (.dic kvs)
theorem ObAt.mv {a : Addr} {o : Ob} (k : Keep W H W' H') (e : ∀ u, H a = some u → H' a = some u) (h : ObAt K mg W H a o) : ObAt K mg W' H' a o := by
  cases h with
  | lst h r l => exact .lst (e _ h) (r.mv k) l
  | dic h q r l => exact .dic (e _ h) q (r.mv k) l
theorem ObAt.trk {a : Addr} {o : Ob} (h : ObAt K mg W H a o) : H a ≠ none := by
  cases h with
  | lst h r l => rw [h]; exact fun z => by cases z
  | dic h q r l => rw [h]; exact fun z => by cases z
/-- an owned object becomes a value -/
theorem ObAt.rep {a : Addr} {o : Ob} (h : ObAt K mg W H a o) (n : ¬ W a) : Rep K mg W H o.toD (.ref a) := by
  cases h with
  | lst h r l => exact .lst (.inl ⟨.inl h, n⟩) r l
  | dic h q r l => exact .dic h n q r l
/-- what an operation reads: a value, or an owned object -/
inductive RepB (K : PySem.W.Frag) (mg : Str → Option Value) (W : Addr → Prop) (H : Hp) : D → V → Prop
  | of {d : D} {v : V} (h : Rep K mg W H d v) : RepB K mg W H d v
  | ob {a : Addr} {o : Ob} (h : ObAt K mg W H a o) : RepB K mg W H o.toD (.ref a)

/-! ### a frame -/
def OwnP (s : Ev) (σ : St) (a : Addr) : Prop := ∃ i : Nat, isOwn s[i]? = true ∧ σ[i]? = some (some (.ref a))
def Wf (W0 : Addr → Prop) (s : Ev) (σ : St) (a : Addr) : Prop := W0 a ∨ OwnP s σ a
structure Rel (K : PySem.W.Frag) (mg : Str → Option Value) (W0 : Addr → Prop) (s : Ev) (σ : St) (H : Hp) : Prop where
  len : s.length = σ.length
  out : ∀ a, W0 a → H a ≠ none
  val : ∀ (i : Nat) d, s[i]? = some (.val d) → ∃ v, σ[i]? = some (some v) ∧ Rep K mg (Wf W0 s σ) H d v
  own : ∀ (i : Nat) o, ownAt s i = some o → ∃ a, σ[i]? = some (some (.ref a)) ∧ ¬ W0 a ∧ ObAt K mg (Wf W0 s σ) H a o
  dis : ∀ (i j : Nat) a, isOwn s[i]? = true → isOwn s[j]? = true → σ[i]? = some (some (.ref a)) → σ[j]? = some (some (.ref a)) → i = j
structure Mv (s : Ev) (σ : St) (H : Hp) (s' : Ev) (σ' : St) (H' : Hp) : Prop where
  keep : ∀ a u, H a = some u → ¬ OwnP s σ a → H' a = some u
  own : ∀ a, OwnP s' σ' a → OwnP s σ a ∨ H a = none
  trk : ∀ a, H a ≠ none → H' a ≠ none
  io : ∀ i : Nat, isIo s[i]? = true → isIo s'[i]? = true ∧ σ'[i]? = σ[i]?
theorem Mv.refl {s : Ev} {σ : St} : Mv s σ H s σ H := ⟨fun _ _ h _ => h, fun _ h => .inl h, fun _ h => h, fun _ h => ⟨h, rfl⟩⟩
theorem Mv.trans {s s1 s2 : Ev} {σ σ1 σ2 : St} {H1 H2 : Hp} (a : Mv s σ H s1 σ1 H1) (b : Mv s1 σ1 H1 s2 σ2 H2) : Mv s σ H s2 σ2 H2 where
  keep := fun p u h n => b.keep p u (a.keep p u h n) fun z => (a.own p z).elim n fun q => by rw [h] at q; cases q
  own := fun p h => by
    rcases b.own p h with h | h
    · exact a.own p h
    · cases q : H p with
      | none => exact .inr rfl
      | some u => exact absurd h (a.trk p (by rw [q]; exact fun z => by cases z))
  trk := fun p h => b.trk p (a.trk p h)
  io := fun i h => ⟨(b.io i (a.io i h).1).1, ((b.io i (a.io i h).1).2).trans (a.io i h).2⟩
theorem Mv.kp {s s' : Ev} {σ σ' : St} {W0 : Addr → Prop} (m : Mv s σ H s' σ' H') : Keep (Wf W0 s σ) H (Wf W0 s' σ') H' :=
  ⟨fun a u h n => m.keep a u h fun z => n (.inr z), fun a h => h.elim (fun z => .inl (.inl z)) fun z => (m.own a z).elim (fun q => .inl (.inr q)) .inr⟩
theorem Mv.fresh {s s' : Ev} {σ σ' : St} (m : Mv s σ H s' σ' H') {a : Addr} (h : H' a = none) : H a = none := by
  cases q : H a with
  | none => rfl
  | some u => exact absurd h (m.trk a (by rw [q]; exact fun z => by cases z))
theorem own_is {s : Ev} {i : Nat} {o : Ob} (h : ownAt s i = some o) : isOwn s[i]? = true := by
  unfold ownAt at h
  split at h
  · rename_i e; rw [e]; rfl
  · rename_i e; rw [e]; rfl
  · cases h
theorem is_own {s : Ev} {i : Nat} (h : isOwn s[i]? = true) : ∃ o, ownAt s i = some o := by
  unfold ownAt
  cases e : s[i]? with
  | none => rw [e] at h; cases h
  | some x =>
    rw [e] at h
    cases x with
    | own o => exact ⟨o, rfl⟩
    | io o => exact ⟨o, rfl⟩
    | emp => cases h
    | val d => cases h
section
variable {s s' : Ev} {σ σ' : St} {W0 W1 : Addr → Prop}
theorem Rel.ownTrk (R : Rel K mg W0 s σ H) {a : Addr} (h : OwnP s σ a) : H a ≠ none ∧ ¬ W0 a := by
  obtain ⟨i, h1, h2⟩ := h
  obtain ⟨o, h3⟩ := is_own h1
  obtain ⟨b, h4, h5, h6⟩ := R.own i o h3
  rw [h2] at h4
  cases h4
  exact ⟨h6.trk, h5⟩
theorem Rel.wTrk (R : Rel K mg W0 s σ H) {a : Addr} (h : Wf W0 s σ a) : H a ≠ none := h.elim (R.out a) fun z => (R.ownTrk z).1
/-- the outer words grow or shrink, the heap grows -/
theorem Rel.grow (R : Rel K mg W0 s σ H) (g : ∀ a u, H a = some u → H' a = some u) (o1 : ∀ a, W1 a → H' a ≠ none) (o2 : ∀ a, W1 a → W0 a ∨ H a = none) : Rel K mg W1 s σ H' := by
  have k : Keep (Wf W0 s σ) H (Wf W1 s σ) H' := ⟨fun a u h _ => g a u h, fun a h => h.elim (fun z => (o2 a z).imp .inl id) fun z => .inl (.inr z)⟩
  refine ⟨R.len, o1, fun i d h => ?_, fun i o h => ?_, R.dis⟩
  · obtain ⟨v, h1, h2⟩ := R.val i d h
    exact ⟨v, h1, h2.mv k⟩
  · obtain ⟨a, h1, h2, h3⟩ := R.own i o h
    refine ⟨a, h1, fun z => ?_, h3.mv k (g a)⟩
    rcases o2 a z with z | z
    · exact h2 z
    · exact h3.trk z
theorem Mv.grow (g : ∀ a u, H a = some u → H' a = some u) : Mv s σ H s σ H' :=
  ⟨fun a u h _ => g a u h, fun _ h => .inl h, fun a h => by
    cases q : H a with
    | none => exact absurd q h
    | some u =>
      rw [g a u q]
      exact fun z => (by cases z), fun _ h => ⟨h, rfl⟩⟩
end

/-! ### what an expression leaves -/
def plus (W0 : Addr → Prop) (p : Addr) : Addr → Prop := fun a => W0 a ∨ a = p
def RepR (K : PySem.W.Frag) (mg : Str → Option Value) (W0 : Addr → Prop) (H : Hp) (σ : St) (s' : Ev) (v : V) (H' : Hp) : RV → Prop
  | .d d => Rel K mg W0 s' σ H' ∧ Rep K mg (Wf W0 s' σ) H' d v
  | .own o => ∃ p, v = .ref p ∧ H p = none ∧ ¬ W0 p ∧ ¬ OwnP s' σ p ∧ Rel K mg (plus W0 p) s' σ H' ∧ ObAt K mg (Wf (plus W0 p) s' σ) H' p o
  | .sl i => Rel K mg W0 s' σ H' ∧ σ[i]? = some (some v)
structure PostE (K : PySem.W.Frag) (mg : Str → Option Value) (W0 : Addr → Prop) (s : Ev) (σ : St) (H : Hp) (rv : RV) (s' : Ev) (v : V) (H' : Hp) : Prop where
  mv : Mv s σ H s' σ H'
  rep : RepR K mg W0 H σ s' v H' rv
/-- an exception's object, as an except clause may read it -/
def XnAt (mg : Str → Option Value) (x : Xn) (c : Value) (d : Option Addr) (H' : Hp) : Prop := ∃ C, c = .ref C ∧ mg x.cls = some (.ref C) ∧ x.flds = [] ∧ d = none
structure PostX (K : PySem.W.Frag) (mg : Str → Option Value) (W0 : Addr → Prop) (s : Ev) (σ : St) (H : Hp) (x : Xn) (s' : Ev) (c : Value) (d : Option Addr) (H' : Hp) : Prop where
  mv : Mv s σ H s' σ H'
  rel : Rel K mg W0 s' σ H'
  xn : XnAt mg x c d H'
def OpRep (K : PySem.W.Frag) (mg : Str → Option Value) (W0 : Addr → Prop) (s : Ev) (σ : St) (H : Hp) (v : V) : Opd → Prop
  | .d d => Rep K mg (Wf W0 s σ) H d v
  | .sl i => σ[i]? = some (some v)
section
variable {s s' s2 : Ev} {σ σ' : St} {W0 W1 : Addr → Prop} {H2 : Hp} {v : V}
theorem wf_less {p a : Addr} (h : Wf W0 s σ a) : Wf (plus W0 p) s σ a := h.imp .inl id
theorem Rel.less {p : Addr} (R : Rel K mg (plus W0 p) s σ H) : Rel K mg W0 s σ H :=
  R.grow (fun _ _ h => h) (fun a h => R.out a (.inl h)) fun a h => .inl (.inl h)
theorem kp_less {p : Addr} : Keep (Wf (plus W0 p) s σ) H (Wf W0 s σ) H := ⟨fun _ _ h _ => h, fun a h => .inl (wf_less h)⟩
theorem PostE.rel {rv : RV} (P : PostE K mg W0 s σ H rv s' v H') : Rel K mg W0 s' σ H' := by
  have r := P.rep
  cases rv with
  | d d => exact r.1
  | own o => obtain ⟨p, _, _, _, _, R, _⟩ := r; exact R.less
  | sl i => exact r.1
theorem PostE.op {rv : RV} (P : PostE K mg W0 s σ H rv s' v H') : OpRep K mg W0 s' σ H' v rv.opd := by
  have r := P.rep
  cases rv with
  | d d => exact r.2
  | own o =>
    obtain ⟨p, rfl, _, n1, n2, R, ob⟩ := r
    exact (ob.mv (W' := Wf W0 s' σ) kp_less fun _ h => h).rep fun z => z.elim n1 n2
  | sl i => exact r.2
theorem OpRep.mv {o : Opd} (m : Mv s σ H s' σ H') (h : OpRep K mg W0 s σ H v o) : OpRep K mg W0 s' σ H' v o := by
  cases o with
  | d d => exact Rep.mv m.kp h
  | sl i => exact h
theorem OpRep.get {o : Opd} {d : D} (R : Rel K mg W0 s σ H) (h : OpRep K mg W0 s σ H v o) (e : o.get s = some d) : RepB K mg (Wf W0 s σ) H d v := by
  cases o with
  | d x =>
    have e' : some x = some d := e
    cases e'
    exact .of h
  | sl i =>
    have h : σ[i]? = some (some v) := h
    have e : (match s[i]? with
      | some (.val x) => some x
      | some (.own o) => some o.toD
      | some (.io o) => some o.toD
      | _ => none) = some d := e
    split at e
    · rename_i x q
      cases e
      obtain ⟨u, h1, h2⟩ := R.val i _ q
      rw [h] at h1
      cases h1
      exact .of h2
    · rename_i o q
      cases e
      obtain ⟨a, h1, _, h2⟩ := R.own i o (by unfold ownAt; rw [q])
      rw [h] at h1
      cases h1
      exact .ob h2
    · rename_i o q
      cases e
      obtain ⟨a, h1, _, h2⟩ := R.own i o (by unfold ownAt; rw [q])
      rw [h] at h1
      cases h1
      exact .ob h2
    · cases e
/-- what an operation on values leaves: the heap grows -/
structure PostV (K : PySem.W.Frag) (mg : Str → Option Value) (W : Addr → Prop) (H : Hp) (rv : RV) (v : V) (H' : Hp) : Prop where
  grow : ∀ a u, H a = some u → H' a = some u
  rep : match rv with
    | .d d => Rep K mg W H' d v
    | .own o => ∃ p, v = .ref p ∧ H p = none ∧ ObAt K mg (plus W p) H' p o
    | .sl _ => False
theorem PostV.post {rv : RV} (R : Rel K mg W0 s2 σ H2) (m : Mv s σ H s2 σ H2) (P : PostV K mg (Wf W0 s2 σ) H2 rv v H') : PostE K mg W0 s σ H rv s2 v H' := by
  have gm : Mv s2 σ H2 s2 σ H' := Mv.grow P.grow
  refine ⟨m.trans gm, ?_⟩
  have r := P.rep
  cases rv with
  | d d => exact ⟨R.grow P.grow (fun a h => gm.trk a (R.out a h)) fun a h => .inl h, r⟩
  | own o =>
    obtain ⟨p, rfl, np, ob⟩ := r
    have n0 : ¬ W0 p := fun z => R.out p z np
    have n1 : ¬ OwnP s2 σ p := fun z => (R.ownTrk z).1 np
    refine ⟨p, rfl, m.fresh np, n0, n1, R.grow P.grow (fun a h => h.elim (fun z => gm.trk a (R.out a z)) fun z => z ▸ ob.trk) (fun a h => h.elim .inl fun z => .inr (z ▸ np)), ?_⟩
    exact ob.mv ⟨fun _ _ h _ => h, fun a h => .inl (h.elim (fun z => z.elim (fun q => .inl (.inl q)) .inr) fun z => .inl (.inr z))⟩ fun _ h => h
  | sl i => exact r.elim
end
end

/-! ### the evaluator's answers as wishes -/
def wpG {α : Type} (r : Rs α) (P : α → Ev → Prop) (E : Xn → Ev → Prop) : Prop :=
  match r with
  | .ok a s => P a s
  | .er x s => E x s
  | .stuck => False
theorem wpG_bind {α β : Type} {r : Rs α} {f : α → Ev → Rs β} {P : β → Ev → Prop} {E : Xn → Ev → Prop} : wpG (r.bind f) P E ↔ wpG r (fun a s => wpG (f a s) P E) E := by
  cases r <;> exact Iff.rfl
theorem wpG.mono {α : Type} {r : Rs α} {P P' : α → Ev → Prop} {E E' : Xn → Ev → Prop} (h : wpG r P E) (p : ∀ a s, P a s → P' a s) (e : ∀ x s, E x s → E' x s) : wpG r P' E' := by
  cases r with
  | ok a s => exact p a s h
  | er x s => exact e x s h
  | stuck => exact h
theorem wpG_opt {α : Type} {o : Option α} {s : Ev} {P : α → Ev → Prop} {E : Xn → Ev → Prop} (h : wpG (Rs.opt o s) P E) : ∃ a, o = some a ∧ P a s := by
  cases o with
  | none => exact h.elim
  | some a => exact ⟨a, rfl, h⟩
end GS

/-! GS3: operations on values. -/
namespace GS
open PySem PySem.Spec PyProof.Rows L2

section
variable {K : PySem.W.Frag} {mg : Str → Option Value} {W : Addr → Prop} {H : Hp}
theorem RepB.inv {d : D} {v : V} (h : RepB K mg W H d v) : Rep K mg W H d v ∨ ∃ a o, v = .ref a ∧ d = o.toD ∧ ObAt K mg W H a o := by
  cases h with
  | of h => exact .inl h
  | ob h => exact .inr ⟨_, _, rfl, rfl, h⟩
theorem RepB.non {v : V} (h : RepB K mg W H .none v) : v = .non := by
  rcases h.inv with h | ⟨a, o, rfl, e, h⟩
  · cases h; rfl
  · cases o <;> cases e
theorem RepB.bl {b : Bool} {v : V} (h : RepB K mg W H (.bool b) v) : v = .bl b := by
  rcases h.inv with h | ⟨a, o, rfl, e, h⟩
  · cases h; rfl
  · cases o <;> cases e
theorem RepB.int {i : Int} {v : V} (h : RepB K mg W H (.int i) v) : v = .int i := by
  rcases h.inv with h | ⟨a, o, rfl, e, h⟩
  · cases h; rfl
  · cases o <;> cases e
theorem RepB.str {x : Str} {v : V} (h : RepB K mg W H (.str x) v) : v = .str x ∧ PyData.strOk x = true ∧ x.length ≤ sizeLine := by
  rcases h.inv with h | ⟨a, o, rfl, e, h⟩
  · cases h with
    | str _ g l => exact ⟨rfl, g, l⟩
  · cases o <;> cases e
theorem RepB.lst {xs : List D} {v : V} (h : RepB K mg W H (.list xs) v) : ∃ a vs, v = .ref a ∧ SqL K H a vs ∧ RepA K mg W H xs vs ∧ xs.length ≤ sizeLine := by
  rcases h.inv with h | ⟨a, o, rfl, e, h⟩
  · cases h with
    | lst g r l => exact ⟨_, _, rfl, g.sq, r, l⟩
  · cases h with
    | lst g r l =>
      cases e
      exact ⟨_, _, rfl, .of g, r, l⟩
    | dic g k r l => cases e
theorem RepB.tup {xs : List D} {v : V} (h : RepB K mg W H (.tuple xs) v) : ∃ a vs, v = .ref a ∧ SqT K H a vs ∧ RepA K mg W H xs vs ∧ xs.length ≤ sizeLine ∧ Rep K mg W H (.tuple xs) v := by
  rcases h.inv with h | ⟨a, o, rfl, e, h⟩
  · cases id h with
    | tup g r l => exact ⟨_, _, rfl, g.sq, r, l, .tup g r l⟩
  · cases o <;> cases e
theorem PostV.atom {d : D} {v : V} (h : Rep K mg W H d v) : PostV K mg W H (.d d) v H := ⟨fun _ _ e => e, h⟩
theorem PostV.str {x : Str} (h : PyData.strOk x = true) (l : x.length ≤ sizeLine) : PostV K mg W H (.d (.str x)) (.str x) H := .atom (.str x h l)
theorem PostV.int {i : Int} : PostV K mg W H (.d (.int i)) (.int i) H := .atom (.int i)
theorem PostV.bl {i : Bool} : PostV K mg W H (.d (.bool i)) (.bl i) H := .atom (.bl i)
theorem grow_upd {p : Addr} {o : HO} (h : H p = none) : ∀ a u, H a = some u → upd H p o a = some u := fun a u e => by
  rw [upd_ne (ne_of_none e h)]
  exact e
theorem kp_new {p : Addr} {o : HO} (h : H p = none) : Keep W H (plus W p) (upd H p o) :=
  ⟨fun a u e _ => grow_upd h a u e, fun a z => z.elim .inl fun e => .inr (e ▸ h)⟩
theorem kp_grow {H' : Hp} (g : ∀ a u, H a = some u → H' a = some u) : Keep W H W H' := ⟨fun a u e _ => g a u e, fun a z => .inl z⟩
theorem PostV.newL {p : Addr} {xs : List D} {vs : List V} (h : H p = none) (r : RepA K mg W H xs vs) (l : xs.length ≤ sizeLine) : PostV K mg W H (.own (.lst xs)) (.ref p) (upd H p (.lst vs)) :=
  ⟨grow_upd h, p, rfl, h, .lst upd_same (r.mv (kp_new h)) l⟩
theorem PostV.newT {p : Addr} {xs : List D} {vs : List V} (h : H p = none) (hw : ¬ W p) (r : RepA K mg W H xs vs) (l : xs.length ≤ sizeLine) : PostV K mg W H (.d (.tuple xs)) (.ref p) (upd H p (.tup vs)) :=
  ⟨grow_upd h, .tup (.inl ⟨.inl upd_same, hw⟩) (r.mv (kp_grow (grow_upd h))) l⟩
end

theorem strOk_app {a b : Str} (ha : PyData.strOk a = true) (hb : PyData.strOk b = true) : PyData.strOk (a ++ b) = true := by
  unfold PyData.strOk at *
  rw [Str.cps_append, Array.all_append, ha, hb]
  rfl
theorem strOk_iff {a : Str} : PyData.strOk a = true ↔ ∀ c ∈ a.cps.toList, c < 0x110000 := by
  unfold PyData.strOk
  rw [← Array.all_toList, List.all_eq_true]
  simp only [decide_eq_true_eq]

section
variable {X : Cx} {pins : List (Addr × Obj)} {σ : St} {H : Hp} {s : Shared} {W : Addr → Prop}
/-- a fresh address is no word's -/
theorem cat_lists {a b : Addr} {xs ys : List V} {Q : VK} (I : Inv X pins σ H s) (ha : SqL X.K H a xs) (hb : SqL X.K H b ys) (hz : xs.length + ys.length ≤ sizeLine)
    (q : ∀ p, H p = none → Q (.ref p) (upd H p (.lst (xs ++ ys)))) : wpAny (model X.prog X.w) X.A (binaryOp .Add (.ref a) (.ref b)) (EP X pins σ Q) X.xe s := by
  obtain ⟨its, r, ⟨⟨cls, dd, data, sl⟩, n, ho, hc, hdd, hd⟩, _⟩ := I.list ha
  obtain ⟨its2, r2, ⟨⟨cls2, dd2, data2, sl2⟩, n2, ho2, hc2, hdd2, hd2⟩, _⟩ := I.list hb
  simp only at hc hd hc2 hd2 hdd hdd2
  subst hc hd hc2 hd2 hdd hdd2
  have e : its.toArray ++ its2.toArray = (its ++ its2).toArray := by simp
  refine concat_meets ⟨_, ho, rfl⟩ ⟨_, ho2, rfl⟩ noFill_list_add seq_list_add PySem.F.slot_list_add PySem.F.entry_list_add (PySem.F.args_list_add_2 _ _) (list_addW a b its.toArray its2.toArray n n2 _ _ sl sl2 (by
    rw [List.size_toArray, List.size_toArray, ← r.length, ← r2.length]; exact hz)) ⟨ho, ho2, ?_⟩
  rw [e]
  exact ⟨.ref _, _, I.lnew (t' := s.toks) (r.append r2) (by rw [List.length_append]; exact hz), rfl, q _ I.fresh⟩
end
end GS

/-! GS4: operators. -/
namespace GS
open PySem PySem.Spec PyProof.Rows L2

def rBin (K : PySem.W.Frag) (mg : Str → Option Value) (o : Operator) : R2 := fun x y H Q => ∃ (W : Addr → Prop) (a b : D) (rv : RV), (∀ p, W p → H p ≠ none) ∧ RepB K mg W H a x ∧ RepB K mg W H b y ∧ binD o a b = some rv ∧
  ∀ v H', PostV K mg W H rv v H' → Q v H'
theorem mulOk_of {i j : Int} (h : mulOk i j = true) : CMul i j := by
  unfold mulOk at h
  simp only [Bool.or_eq_true, Bool.and_eq_true, decide_eq_true_eq] at h
  exact h
theorem flat_str (x : Str) (n : Nat) : (List.replicate n x.cps).foldl (· ++ ·) #[] = ((List.replicate n x.cps.toList).flatten).toArray := by
  have f : ∀ (n : Nat) (acc : Array Nat), (List.replicate n x.cps).foldl (· ++ ·) acc = acc ++ ((List.replicate n x.cps.toList).flatten).toArray := by
    intro n
    induction n with
    | zero => intro acc; simp
    | succ n ih =>
      intro acc
      rw [List.replicate_succ, List.foldl_cons, ih, List.replicate_succ, List.flatten_cons]
      apply Array.ext'
      simp
  rw [f]
  simp
theorem mem_flat {x : Str} {n c : Nat} (h : c ∈ (List.replicate n x.cps.toList).flatten) : c ∈ x.cps.toList := by
  rw [List.mem_flatten] at h
  obtain ⟨l, h1, h2⟩ := h
  rw [(List.mem_replicate.mp h1).2] at h2
  exact h2
theorem len_flat (x : Str) (n : Nat) : ((List.replicate n x.cps.toList).flatten).length = x.length * n := by
  rw [PyProof.Rows.lm_len_rep_flat]
  show n * x.cps.toList.length = x.cps.size * n
  rw [Array.length_toList, Nat.mul_comm]
section
variable {X : Cx}
theorem op_bin (o : Operator) : OpR X (binaryOp o) (rBin X.K X.mg o) := by
  intro pins s σ H x y v u Q I rx ry h
  obtain ⟨W, a, b, rv, hW, ra, rb, e, q⟩ := h
  unfold binD at e
  split at e
  · -- int + int
    cases ra.int; cases rb.int; cases e
    exact op_add pins s σ H _ _ v u Q I rx ry ⟨_, _, rfl, rfl, q _ _ .int⟩
  · cases ra.int; cases rb.int; cases e
    exact op_sub pins s σ H _ _ v u Q I rx ry ⟨_, _, rfl, rfl, q _ _ .int⟩
  · split at e
    · rename_i hm
      cases ra.int; cases rb.int; cases e
      exact op_mul pins s σ H _ _ v u Q I rx ry ⟨_, _, rfl, rfl, mulOk_of hm, q _ _ .int⟩
    · cases e
  · split at e
    · rename_i hm
      cases ra.int; cases rb.int; cases e
      simp only [Bool.and_eq_true, decide_eq_true_eq] at hm
      exact op_fdiv pins s σ H _ _ v u Q I rx ry ⟨_, _, rfl, rfl, hm, q _ _ .int⟩
    · cases e
  · split at e
    · rename_i hm
      cases ra.int; cases rb.int; cases e
      exact op_mod pins s σ H _ _ v u Q I rx ry ⟨_, _, rfl, rfl, hm, q _ _ .int⟩
    · cases e
  · split at e
    · rename_i hm
      cases ra.int; cases rb.int; cases e
      simp only [Bool.and_eq_true, decide_eq_true_eq] at hm
      exact op_pow pins s σ H _ _ v u Q I rx ry ⟨_, _, rfl, rfl, ⟨hm.1.1, hm.1.2, hm.2⟩, q _ _ .int⟩
    · cases e
  · split at e
    · rename_i hm
      cases ra.int; cases rb.int; cases e
      simp only [Bool.and_eq_true, decide_eq_true_eq] at hm
      exact op_shl pins s σ H _ _ v u Q I rx ry ⟨_, _, rfl, rfl, ⟨hm.1.1, hm.1.2, hm.2⟩, q _ _ .int⟩
    · cases e
  · split at e
    · rename_i hm
      cases ra.int; cases rb.int; cases e
      exact op_shr pins s σ H _ _ v u Q I rx ry ⟨_, _, rfl, rfl, hm, q _ _ .int⟩
    · cases e
  · cases ra.int; cases rb.int; cases e
    exact op_and pins s σ H _ _ v u Q I rx ry ⟨_, _, rfl, rfl, q _ _ .int⟩
  · -- str + str
    split at e
    · rename_i hm
      obtain ⟨rfl, h1, _⟩ := ra.str
      obtain ⟨rfl, h2, _⟩ := rb.str
      cases e
      refine op_add_str pins s σ H _ _ v u Q I rx ry ⟨_, _, rfl, rfl, hm, q _ _ (.str (strOk_app h1 h2) ?_)⟩
      rw [Str.length_append]
      exact hm
    · cases e
  · split at e
    · rename_i hm
      obtain ⟨p1, v1, rfl, h1, r1, l1⟩ := ra.lst
      obtain ⟨p2, v2, rfl, h2, r2, l2⟩ := rb.lst
      cases e; cases rx; cases ry
      exact cat_lists I h1 h2 (by rw [← r1.len, ← r2.len]; exact hm) fun p np => q _ _ (.newL np (r1.append r2) (by rw [List.length_append]; exact hm))
    · cases e
  · split at e
    · rename_i hm
      obtain ⟨p1, v1, rfl, h1, r1, l1, t1⟩ := ra.tup
      obtain ⟨p2, v2, rfl, h2, r2, l2, t2⟩ := rb.tup
      cases e
      refine op_catA pins s σ H _ _ v u Q I rx ry ⟨_, _, _, _, rfl, rfl, h1, h2, by rw [← r1.len, ← r2.len]; exact hm, fun z => ?_, fun _ z => ?_, fun _ _ p np => ?_⟩
      · subst z
        cases r1
        exact q _ _ (.atom t2)
      · subst z
        cases r2
        refine q _ _ (.atom ?_)
        rw [List.append_nil]
        exact t1
      · exact q _ _ (.newT np (fun z => hW p z np) (r1.append r2) (by rw [List.length_append]; exact hm))
    · cases e
  · cases e
  · -- str * int
    split at e
    · rename_i x k hm
      obtain ⟨rfl, h1, l1⟩ := ra.str
      cases rb.int
      cases e
      obtain ⟨t, rfl⟩ := rx
      obtain ⟨t', rfl⟩ := ry
      simp only [Bool.and_eq_true, decide_eq_true_eq] at hm
      obtain ⟨⟨g1, g2⟩, g3⟩ := hm
      have hs : sizeLine = 16777216 := sizeLine_eq
      have res : ∀ (tk : Tok) (n : Nat), EP X pins σ Q (.str ⟨((List.replicate k.toNat x.cps.toList).flatten).toArray⟩ tk) { s with toks := n } := fun tk n =>
        ⟨.str _, H, I.tok _, ⟨_, rfl⟩, q _ _ (.str (strOk_iff.mpr fun c hc => strOk_iff.mp h1 c (mem_flat (n := k.toNat) hc)) (by
          show ((List.replicate k.toNat x.cps.toList).flatten).toArray.size ≤ sizeLine
          rw [List.size_toArray, len_flat]; exact g3))⟩
      refine PySem.P.mul_str (by rw [decide_eq_false (by omega), decide_eq_false (by omega)]; rfl) (fun h1 h2 => ?_) (fun h1 h2 => ?_) ?_
      · rw [Bool.or_eq_false_iff] at h2
        have h3 : (x.length : Int) ≤ (2 ^ 63 - 1) / k := by
          rw [Int.le_ediv_iff_mul_le (by omega)]
          have : (x.length : Int) * k = ((x.length * k.toNat : Nat) : Int) := by
            rw [Int.natCast_mul, Int.toNat_of_nonneg g1]
          rw [this]
          omega
        omega
      · exact decide_eq_false (by omega)
      · by_cases c1 : k < 1
        · rw [if_pos c1]
          have hk : k.toNat = 0 := by omega
          have r := res s.toks (s.toks + 1)
          rw [hk] at r
          exact ⟨by decide, r⟩
        · rw [if_neg c1]
          by_cases c2 : (k == 1 || x.length == 0) = true
          · rw [if_pos c2]
            have r := res t s.toks
            have e : (⟨((List.replicate k.toNat x.cps.toList).flatten).toArray⟩ : Str) = x := by
              rw [Bool.or_eq_true, beq_iff_eq, beq_iff_eq] at c2
              rcases c2 with c2 | c2
              · have hk : k.toNat = 1 := by omega
                rw [hk]
                simp
              · have hx : x.cps.toList = [] := List.eq_nil_of_length_eq_zero (by rw [Array.length_toList]; exact c2)
                rw [hx]
                apply Str.ext'
                show ((List.replicate k.toNat ([] : List Nat)).flatten).toArray = x.cps
                apply Array.ext'
                rw [hx]
                simp
            rw [e] at r
            exact r
          · rw [if_neg c2, flat_str]
            have r := res s.toks (s.toks + 1)
            refine ⟨?_, r⟩
            show ((List.replicate k.toNat x.cps.toList).flatten).toArray.size ≤ sizeLine
            rw [List.size_toArray, len_flat]; exact g3
    · cases e
  · cases e
end
end GS

/-! GS5: comparisons. -/
namespace GS
open PySem PySem.Spec PyProof.Rows L2

section
variable {K : PySem.W.Frag} {mg : Str → Option Value} {W : Addr → Prop} {H : Hp}
mutual
theorem Rep.dp : ∀ {d : D} {v : V}, Rep K mg W H d v → plainD d = true → Dp K H v d ∧ d.canLay0 = true
  | _, _, .non, _ => ⟨.non, by simp [PyData.canLay0]⟩
  | _, _, .bl b, _ => ⟨.bl b, by simp [PyData.canLay0]⟩
  | _, _, .int i, _ => ⟨.int i, by simp [PyData.canLay0]⟩
  | _, _, .str x h l, _ => ⟨.str x, by simp [PyData.canLay0]; exact h⟩
  | _, _, .lst h r l, p => by
    have p' := RepA.dp r (by simpa [plainD] using p)
    exact ⟨.lst h.sq p'.1, by simpa [PyData.canLay0] using p'.2⟩
  | _, _, .tup h r l, p => by
    have p' := RepA.dp r (by simpa [plainD] using p)
    exact ⟨.tup h.sq p'.1, by simpa [PyData.canLay0] using p'.2⟩
  | _, _, .dic h n e r l, p => by simp [plainD] at p
  | _, _, .fn h, p => by simp [plainD] at p
theorem RepA.dp : ∀ {ds : List D} {vs : List V}, RepA K mg W H ds vs → plainA ds = true → DpAll K H vs ds ∧ PyData.canLayAll0 ds = true
  | _, _, .nil, _ => ⟨.nil, by simp [PyData.canLayAll0]⟩
  | d :: ds, _, .cons h r, p => by
    have p' : plainD d = true ∧ plainA ds = true := by simpa [plainA] using p
    obtain ⟨h1, h2⟩ := Rep.dp h p'.1
    obtain ⟨h3, h4⟩ := RepA.dp r p'.2
    exact ⟨.cons h1 h3, by simp [PyData.canLayAll0, h2, h4]⟩
end
theorem RepB.dp {d : D} {v : V} (h : RepB K mg W H d v) (p : plainD d = true) : Dp K H v d ∧ d.canLay0 = true := by
  rcases h.inv with h | ⟨a, o, rfl, e, h⟩
  · exact h.dp p
  · cases h with
    | lst g r l =>
      subst e
      have p' := r.dp (by simpa [plainD, Ob.toD] using p)
      exact ⟨.lst (.of g) p'.1, by simpa [PyData.canLay0, Ob.toD] using p'.2⟩
    | dic g k r l =>
      subst e
      simp [plainD, Ob.toD] at p
theorem RepB.dic {kvs : List (D × D)} {v : V} (h : RepB K mg W H (.dict kvs) v) (hx : isFnB kvs = false) : ∃ a kws, v = .ref a ∧ H a = some (.dK kws) ∧ kvs.map (·.1) = (kws.map fun p => keyD p.1) ∧ RepA K mg W H (kvs.map (·.2)) (kws.map (·.2)) ∧ kvs.length ≤ sizeLine := by
  rcases h.inv with h | ⟨a, o, rfl, e, h⟩
  · cases h with
    | dic g n k r l => exact ⟨_, _, rfl, g, k, r, l⟩
    | fn g => cases hx
  · cases h with
    | lst g r l => cases e
    | dic g k r l =>
      cases e
      exact ⟨_, _, rfl, g, k, r, l⟩
theorem isNon_of {a : D} {x : V} (ra : RepB K mg W H a x) : decide (x = V.non) = isNonD a := by
  rcases ra.inv with h | ⟨p, o, rfl, e, h⟩
  · cases h <;> rfl
  · cases o <;> cases e <;> rfl
theorem keyEq_is (a b : Key) : keyEq (keyD a) (keyD b) = decide (a = b) := by
  cases a <;> cases b <;> simp [keyEq, keyD]
theorem keyOk_of {x : D} (h : keyOk x = true) : ∃ k : Key, x = keyD k := by
  unfold keyOk at h
  split at h
  · exact ⟨.inl _, rfl⟩
  · exact ⟨.inr _, rfl⟩
  · cases h
theorem look_ok (k : Key) : ∀ {kvs : List (D × D)} {kws : List (Key × V)}, (kvs.map (·.1)) = (kws.map fun p => keyD p.1) → RepA K mg W H (kvs.map (·.2)) (kws.map (·.2)) →
    (lookD (keyD k) kvs = none ∧ valV kws k = none) ∨ ∃ d v, lookD (keyD k) kvs = some d ∧ valV kws k = some v ∧ Rep K mg W H d v
  | [], [], _, _ => .inl ⟨rfl, rfl⟩
  | [], _ :: _, h, _ => by simp at h
  | _ :: _, [], h, _ => by simp at h
  | (j, x) :: kvs, (i, v) :: kws, h, r => by
    simp only [List.map_cons, List.cons.injEq] at h
    obtain ⟨rfl, h⟩ := h
    cases r with
    | cons h1 r =>
      by_cases e : i = k
      · refine .inr ⟨x, v, ?_, valV_pos e, h1⟩
        unfold lookD
        rw [keyEq_is, decide_eq_true e, if_pos rfl]
      · have e2 : lookD (keyD k) ((keyD i, x) :: kvs) = lookD (keyD k) kvs := by
          conv => lhs; unfold lookD
          rw [keyEq_is, decide_eq_false e, if_neg Bool.false_ne_true]
        rw [e2, valV_neg (p := (i, v)) e]
        exact look_ok k h r
theorem keyRep {k : Key} {v : V} (h : RepB K mg W H (keyD k) v) : v = kV k := by
  cases k with
  | inl i => exact h.int
  | inr x => exact h.str.1
theorem lookD_fn {f : Str} (k : Key) : lookD (keyD k) [(.tuple [], .str f)] = none := by
  cases k <;> rfl
end

def rCmp (K : PySem.W.Frag) (mg : Str → Option Value) (o : CmpOp) : R2 := fun x y H Q => ∃ (W : Addr → Prop) (a b : D) (c : Bool), RepB K mg W H a x ∧ RepB K mg W H b y ∧ cmpD o a b = some c ∧ Q (.bl c) H
def isFn : D → Prop
  | .dict kvs => ∃ f, kvs = [(.tuple [], .str f)]
  | _ => False
section
variable {X : Cx}
theorem RepB.reads {W : Addr → Prop} {pins : List (Addr × Obj)} {s : Shared} {σ : L2.St} {H : Hp} {d : D} {x : V} {v : Value} (I : Inv X pins σ H s) (rx : RelV x v) (h : RepB X.K X.mg W H d x) (p : plainD d = true) : (∃ as, Reads s.heap v d as) ∧ d.canLay0 = true :=
  ⟨Dp.reads I d x v (h.dp p).1 rx, (h.dp p).2⟩
theorem op_cmp (o : CmpOp) (hu : X.A.units + 100 < cLine) : OpR X (compareOp o) (rCmp X.K X.mg o) := by
  intro pins s σ H x y v u Q I rx ry h
  obtain ⟨W, a, b, c, ra, rb, e, q⟩ := h
  have fin : ∀ {s' : Shared}, Inv X pins σ H s' → EP X pins σ Q (.bool c) s' := fun {s'} I' => ⟨.bl c, H, I', rfl, q⟩
  have eqs : ∀ {c' : Bool}, eqD a b = some c' → (∃ as bs, Reads s.heap v a as ∧ Reads s.heap u b bs) ∧ a.canLay0 = true ∧ b.canLay0 = true ∧ X.A.units + min a.depth b.depth < cLine ∧ c' = PyData.eqv a b := fun {c'} h => by
    unfold eqD at h
    split at h
    · rename_i g
      simp only [Bool.and_eq_true, decide_eq_true_eq] at g
      obtain ⟨⟨as, r1⟩, k1⟩ := ra.reads I rx g.1.1
      obtain ⟨⟨bs, r2⟩, k2⟩ := rb.reads I ry g.1.2
      exact ⟨⟨as, bs, r1, r2⟩, k1, k2, by omega, (Option.some.inj h).symm⟩
    · cases h
  have ins : ∀ {c' : Bool}, isIn a b = some c' → (o = .In → c = c' → wpAny (model X.prog X.w) X.A (compareOp .In v u) (EP X pins σ Q) X.xe s) ∧ (o = .NotIn → c = !c' → wpAny (model X.prog X.w) X.A (compareOp .NotIn v u) (EP X pins σ Q) X.xe s) := fun {c'} h => by
    unfold isIn at h
    split at h
    · rename_i ys
      split at h
      · rename_i g
        simp only [Bool.and_eq_true, decide_eq_true_eq] at g
        obtain ⟨⟨as, r1⟩, k1⟩ := ra.reads I rx g.1.1
        obtain ⟨⟨bs, r2⟩, k2⟩ := rb.reads I ry (by simpa [plainD] using g.1.2)
        have k2' : PyData.canLayAll0 ys = true := by simpa [PyData.canLay0] using k2
        cases h
        exact ⟨fun _ ec => SeqAt.in_list_reads r2 r1 k2' k1 (by omega) (by rw [← ec]; exact fin I), fun _ ec => SeqAt.notIn_list_reads r2 r1 k2' k1 (by omega) (by rw [← ec]; exact fin I)⟩
      · cases h
    · rename_i ys
      split at h
      · rename_i g
        simp only [Bool.and_eq_true, decide_eq_true_eq] at g
        obtain ⟨⟨as, r1⟩, k1⟩ := ra.reads I rx g.1.1
        obtain ⟨⟨bs, r2⟩, k2⟩ := rb.reads I ry (by simpa [plainD] using g.1.2)
        have k2' : PyData.canLayAll0 ys = true := by simpa [PyData.canLay0] using k2
        cases h
        exact ⟨fun _ ec => SeqAt.in_tuple_reads r2 r1 k2' k1 (by omega) (by rw [← ec]; exact fin I), fun _ ec => SeqAt.notIn_tuple_reads r2 r1 k2' k1 (by omega) (by rw [← ec]; exact fin I)⟩
      · cases h
    · rename_i kvs
      split at h
      · rename_i g
        simp only [Bool.and_eq_true, Bool.not_eq_true'] at g
        obtain ⟨k, rfl⟩ := keyOk_of g.1
        cases h
        have hk := keyRep ra
        subst hk
        obtain ⟨p, kws, rfl, hr, hk, hv, hl⟩ := rb.dic g.2
        have g : DGet H p (kV k) (valV kws k) := .inl ⟨kws, k, .inl hr, rfl, rfl⟩
        have e1 : (lookD (keyD k) kvs).isSome = (valV kws k).isSome := by
          rcases look_ok k hk hv with ⟨h1, h2⟩ | ⟨d, w, h1, h2, _⟩ <;> rw [h1, h2] <;> rfl
        cases ry
        exact ⟨fun _ ec => d_in (by omega) I g rx fun s' I' => by rw [← e1, ← ec]; exact fin I', fun _ ec => d_notIn (by omega) I g rx fun s' I' => by rw [← e1, ← ec]; exact fin I'⟩
      · cases h
    · split at h
      · rename_i z
        cases h
        obtain ⟨rfl, _, _⟩ := ra.str
        obtain ⟨rfl, _, _⟩ := rb.str
        exact ⟨fun _ ec => op_in_str pins s σ H _ _ v u Q I rx ry ⟨_, _, rfl, rfl, by rw [← ec]; exact q⟩, fun _ ec => op_notIn_str pins s σ H _ _ v u Q I rx ry ⟨_, _, rfl, rfl, by rw [← ec]; exact q⟩⟩
      · cases h
    · cases h
  unfold cmpD at e
  split at e
  · obtain ⟨⟨as, bs, r1, r2⟩, k1, k2, hz, rfl⟩ := eqs e
    exact SeqAt.compareEq_reads r1 r2 k1 k2 hz (fin I)
  · cases e' : eqD a b with
    | none => rw [e'] at e; cases e
    | some c' =>
      rw [e'] at e
      cases e
      obtain ⟨⟨as, bs, r1, r2⟩, k1, k2, hz, rfl⟩ := eqs e'
      exact SeqAt.compareNe_reads r1 r2 k1 k2 hz (fin I)
  · unfold ltD at e
    split at e
    · cases ra.int; cases rb.int; cases e
      exact op_lt pins s σ H _ _ v u Q I rx ry ⟨_, _, rfl, rfl, q⟩
    · cases e
  · split at e
    · cases ra.int; cases rb.int; cases e
      exact op_le pins s σ H _ _ v u Q I rx ry ⟨_, _, rfl, rfl, q⟩
    · cases e
  · split at e
    · cases ra.int; cases rb.int; cases e
      exact op_gt pins s σ H _ _ v u Q I rx ry ⟨_, _, rfl, rfl, q⟩
    · cases e
  · split at e
    · cases ra.int; cases rb.int; cases e
      exact op_ge pins s σ H _ _ v u Q I rx ry ⟨_, _, rfl, rfl, q⟩
    · cases e
  · exact (ins e).1 rfl rfl
  · cases e' : isIn a b with
    | none => rw [e'] at e; cases e
    | some c' =>
      rw [e'] at e
      cases e
      exact (ins e').2 rfl rfl
  · split at e
    · cases rb.non
      cases e
      refine op_isN pins s σ H _ _ v u Q I rx ry ⟨rfl, ?_⟩
      rw [isNon_of ra]
      exact q
    · cases e
  · split at e
    · cases rb.non
      cases e
      refine op_notN pins s σ H _ _ v u Q I rx ry ⟨rfl, ?_⟩
      rw [isNon_of ra]
      exact q
    · cases e
end
end GS

/-! GS6: subscripts, slices, isinstance, built-in functions, methods. -/
namespace GS
open PySem PySem.Spec PyProof.Rows L2

inductive RepBs (K : PySem.W.Frag) (mg : Str → Option Value) (W : Addr → Prop) (H : Hp) : List D → List V → Prop
  | nil : RepBs K mg W H [] []
  | cons {d : D} {v : V} {ds : List D} {vs : List V} (h : RepB K mg W H d v) (r : RepBs K mg W H ds vs) : RepBs K mg W H (d :: ds) (v :: vs)
section
variable {K : PySem.W.Frag} {mg : Str → Option Value} {W : Addr → Prop} {H : Hp}
theorem RepBs.one {d : D} {vs : List V} (h : RepBs K mg W H [d] vs) : ∃ v, vs = [v] ∧ RepB K mg W H d v := by
  cases h with
  | cons h r => cases r; exact ⟨_, rfl, h⟩
theorem RepBs.two {d e : D} {vs : List V} (h : RepBs K mg W H [d, e] vs) : ∃ v w, vs = [v, w] ∧ RepB K mg W H d v ∧ RepB K mg W H e w := by
  cases h with
  | cons h r =>
    obtain ⟨w, rfl, r'⟩ := r.one
    exact ⟨_, _, rfl, h, r'⟩
theorem RepBs.zero {vs : List V} (h : RepBs K mg W H [] vs) : vs = [] := by
  cases h; rfl
theorem atI_rep {xs : List D} {vs : List V} {i : Int} {d : D} (r : RepA K mg W H xs vs) (h : atI xs i = some d) : ∃ v, atI vs i = some v ∧ Rep K mg W H d v := by
  unfold atI at h ⊢
  rw [← r.len]
  cases e : ixN xs.length i with
  | none => rw [e] at h; cases h
  | some j =>
    rw [e] at h
    obtain ⟨v, h1, h2⟩ := r.get (i := j) h
    exact ⟨v, h1, h2⟩
theorem cut_rep {xs : List D} {vs : List V} {lo hi : Option Int} (r : RepA K mg W H xs vs) : RepA K mg W H (cutD xs lo hi) (cutV vs lo hi) := by
  unfold cutD cutV
  rw [← r.len]
  exact (r.drop _).take _
theorem cutD_len (xs : List D) (lo hi : Option Int) : (cutD xs lo hi).length ≤ xs.length := by
  unfold cutD
  rw [List.length_take, List.length_drop]
  omega
theorem strOk_chr {z : Str} {c : Nat} (h : PyData.strOk z = true) (e : c ∈ z.cps.toList) : PyData.strOk ⟨#[c]⟩ = true :=
  strOk_iff.mpr fun d hd => by
    have hd' : d = c := by simpa using hd
    rw [hd']
    exact strOk_iff.mp h c e
theorem one_size : (1 : Nat) ≤ sizeLine := by rw [sizeLine_eq]; decide
theorem strOk_cut {z : Str} {lo hi : Option Int} (h : PyData.strOk z = true) : PyData.strOk (cutS z lo hi) = true :=
  strOk_iff.mpr fun c hc => strOk_iff.mp h c (by
    have hc : c ∈ (z.cps.toList.drop (HT.sIx z.length 0 lo)).take (HT.sIx z.length z.length hi - HT.sIx z.length 0 lo) := by simpa [cutS] using hc
    exact List.mem_of_mem_drop (List.mem_of_mem_take hc))
theorem bools_ok : ∀ {xs : List D} {vs : List V} {bs : List Bool}, RepA K mg W H xs vs → bools xs = some bs → vs = bs.map V.bl
  | [], _, _, r, h => by cases r; cases h; rfl
  | .bool b :: xs, _, bs, r, h => by
    cases r with
    | cons h1 r =>
      cases h1
      have h' : (bools xs).map (b :: ·) = some bs := h
      cases e : bools xs with
      | none => rw [e] at h'; cases h'
      | some cs =>
        rw [e] at h'
        cases h'
        rw [bools_ok r e]
        rfl
  | .none :: _, _, _, _, h => by cases h
  | .int _ :: _, _, _, _, h => by cases h
  | .str _ :: _, _, _, _, h => by cases h
  | .list _ :: _, _, _, _, h => by cases h
  | .tuple _ :: _, _, _, _, h => by cases h
  | .dict _ :: _, _, _, _, h => by cases h
theorem ints_ok : ∀ {xs : List D} {vs : List V} {bs : List Int}, RepA K mg W H xs vs → intsD xs = some bs → vs = bs.map V.int
  | [], _, _, r, h => by cases r; cases h; rfl
  | .int b :: xs, _, bs, r, h => by
    cases r with
    | cons h1 r =>
      cases h1
      have h' : (intsD xs).map (b :: ·) = some bs := h
      cases e : intsD xs with
      | none => rw [e] at h'; cases h'
      | some cs =>
        rw [e] at h'
        cases h'
        rw [ints_ok r e]
        rfl
  | .none :: _, _, _, _, h => by cases h
  | .bool _ :: _, _, _, _, h => by cases h
  | .str _ :: _, _, _, _, h => by cases h
  | .list _ :: _, _, _, _, h => by cases h
  | .tuple _ :: _, _, _, _, h => by cases h
  | .dict _ :: _, _, _, _, h => by cases h
theorem strs_ok : ∀ {xs : List D} {vs : List V} {bs : List Str}, RepA K mg W H xs vs → strsD xs = some bs → vs = bs.map V.str ∧ ∀ b ∈ bs, PyData.strOk b = true
  | [], _, _, r, h => by cases r; cases h; exact ⟨rfl, fun _ h => by cases h⟩
  | .str b :: xs, _, bs, r, h => by
    cases r with
    | cons h1 r =>
      have h' : (strsD xs).map (b :: ·) = some bs := h
      cases e : strsD xs with
      | none => rw [e] at h'; cases h'
      | some cs =>
        rw [e] at h'
        cases h'
        obtain ⟨e1, e2⟩ := strs_ok r e
        cases h1 with
        | str _ g l =>
          refine ⟨by rw [e1]; rfl, fun x hx => ?_⟩
          rcases List.mem_cons.mp hx with rfl | hx
          · exact g
          · exact e2 x hx
  | .none :: _, _, _, _, h => by cases h
  | .bool _ :: _, _, _, _, h => by cases h
  | .int _ :: _, _, _, _, h => by cases h
  | .list _ :: _, _, _, _, h => by cases h
  | .tuple _ :: _, _, _, _, h => by cases h
  | .dict _ :: _, _, _, _, h => by cases h
theorem seq_ok {x : D} {v : V} {xs : List D} (r : RepB K mg W H x v) (h : seqD x = some xs) : ∃ a vs, v = .ref a ∧ (SqL K H a vs ∨ SqT K H a vs) ∧ RepA K mg W H xs vs ∧ xs.length ≤ sizeLine ∧ (x = .tuple xs → Rep K mg W H (.tuple xs) v ∧ SqT K H a vs) ∧ (x = .list xs → SqL K H a vs) ∧ (x = .list xs ∨ x = .tuple xs) := by
  unfold seqD at h
  split at h
  · cases h
    obtain ⟨a, vs, rfl, h1, h2, h3⟩ := r.lst
    exact ⟨a, vs, rfl, .inl h1, h2, h3, (fun z => by cases z), (fun _ => h1), .inl rfl⟩
  · cases h
    obtain ⟨a, vs, rfl, h1, h2, h3, h4⟩ := r.tup
    exact ⟨a, vs, rfl, .inr h1, h2, h3, (fun _ => ⟨h4, h1⟩), (fun z => by cases z), .inr rfl⟩
  · cases h
theorem lstD_ok {x : D} {v : V} {xs : List D} (r : RepB K mg W H x v) (h : lstD x = some xs) : ∃ a vs, v = .ref a ∧ SqL K H a vs ∧ RepA K mg W H xs vs ∧ xs.length ≤ sizeLine := by
  unfold lstD at h
  split at h
  · cases h
    exact r.lst
  · cases h
end

section
variable {X : Cx}
/-! ### a[b] -/
def rIdx (K : PySem.W.Frag) (mg : Str → Option Value) : R2 := fun x y H Q => ∃ (W : Addr → Prop) (a b d : D), RepB K mg W H a x ∧ RepB K mg W H b y ∧ idxD a b = some d ∧ ∀ v, Rep K mg W H d v → Q v H
/-- a dict's item, where the key is there -/
theorem ix_dict (room : X.A.units + 1 < cLine) : IxR X (fun x y H Q => ∃ a v, x = .ref a ∧ DGet H a y (some v) ∧ Q v H) := fun whole key pins t σ H x y o k Q inv atO atK ⟨a, w, isA, got, q⟩ plain => by
  subst isA
  obtain rfl : o = .ref a := atO
  have item : wpAny (model X.prog X.w) X.A (subscripted key false (.ref a) k) (EP X pins σ (fun z G => z = w ∧ G = H)) X.xe t :=
    plain ▸ wpAny_operating (d_getItem room inv got atK fun z t2 inv2 rel => ⟨w, H, inv2, rel, rfl, rfl⟩)
  have ends := wpAny_mono (Q' := fun r t2 => wpAny (model X.prog X.w) X.A (letTemporaryGo whole (.ref a) r >>= fun _ => pure r) (EP X pins σ Q) X.xe t2) item
    (fun r t2 ⟨z, G, inv2, rel, ez, eG⟩ => wpAny_bind (wpAny_letTemporaryGo (wpAny_pure ⟨z, G, inv2, rel, ez ▸ eG ▸ q⟩))) fun _ _ out => out
  have typed := dict_typeIs inv got
  simp only [subscriptTail, getitemInPython_of_ne typed.not_modules]
  exact wpAny_bind (wpAny_bind (wpAny_specialOf typed PySem.F.slot_dict_getitem.lookup (by
    first
      | exact wpAny_pure (by exact wpAny_bind ends)
      | exact wpAny_bind ends)))
theorem ix_any (hu : X.A.units + 1 < cLine) : IxR X (rIdx X.K X.mg) := by
  intro value slice pins s σ H x y v u Q I rx ry h hs
  obtain ⟨W, a, b, d, ra, rb, e, q⟩ := h
  unfold idxD at e
  split at e
  · obtain ⟨p, vs, rfl, h1, h2, h3⟩ := ra.lst
    cases rb.int
    obtain ⟨w, e1, e2⟩ := atI_rep h2 e
    exact ix_list value slice pins s σ H _ _ v u Q I rx ry ⟨p, vs, _, w, rfl, rfl, h1, e1, q w e2⟩ hs
  · obtain ⟨p, vs, rfl, h1, h2, h3, h4⟩ := ra.tup
    cases rb.int
    obtain ⟨w, e1, e2⟩ := atI_rep h2 e
    exact ix_tup value slice pins s σ H _ _ v u Q I rx ry ⟨p, vs, _, w, rfl, rfl, h1, e1, q w e2⟩ hs
  · obtain ⟨rfl, h1, h2⟩ := ra.str
    cases rb.int
    obtain ⟨c, e1, e2⟩ := Option.map_eq_some_iff.mp e
    subst e2
    refine ix_str value slice pins s σ H _ _ v u Q I rx ry ⟨_, _, c, rfl, rfl, h2, e1, q _ (.str _ (strOk_chr h1 ?_) one_size)⟩ hs
    obtain ⟨j, _, e3, _⟩ := atI_get e1
    exact List.mem_of_getElem? e3
  · split at e
    · rename_i g
      simp only [Bool.and_eq_true, Bool.not_eq_true'] at g
      obtain ⟨k, rfl⟩ := keyOk_of g.1
      have hk := keyRep rb
      subst hk
      obtain ⟨p, kws, rfl, hr, hk, hv, hl⟩ := ra.dic g.2
      rcases look_ok k hk hv with ⟨h1, h2⟩ | ⟨d', w, h1, h2, h3⟩
      · rw [h1] at e; cases e
      · rw [h1] at e; cases e
        exact ix_dict hu value slice pins s σ H _ _ v u Q I rx ry ⟨p, w, rfl, .inl ⟨kws, k, .inl hr, rfl, h2.symm⟩, q w h3⟩ hs
    · cases e
  · cases e
/-! ### a[l:h] -/
def rSlc (K : PySem.W.Frag) (mg : Str → Option Value) : V → Option Int → Option Int → Hp → VK → Prop := fun x lo hi H Q => ∃ (W : Addr → Prop) (a : D) (rv : RV), (∀ p, W p → H p ≠ none) ∧ RepB K mg W H a x ∧ slcD a lo hi = some rv ∧
  ∀ v H', PostV K mg W H rv v H' → Q v H'
theorem sl_any : SlR X (rSlc X.K X.mg) := by
  intro pins s σ H x v vl vu lo hi sl Q I rx hs pl pu h
  obtain ⟨W, a, rv, hW, ra, e, q⟩ := h
  unfold slcD at e
  split at e
  · cases e
    obtain ⟨p, vs, rfl, h1, h2, h3⟩ := ra.lst
    exact sl_list pins s σ H _ v vl vu lo hi sl Q I rx hs pl pu ⟨p, vs, rfl, h1, fun p np => q _ _ (.newL np (cut_rep h2) (Nat.le_trans (cutD_len _ _ _) h3))⟩
  · cases e
    obtain ⟨p, vs, rfl, h1, h2, h3, h4⟩ := ra.tup
    rename_i xs
    refine sl_tupA pins s σ H _ v vl vu lo hi sl Q I rx hs pl pu ⟨p, vs, rfl, h1, fun hw => ?_, fun hw p np => q _ _ (.newT np (fun z => hW p z np) (cut_rep h2) (Nat.le_trans (cutD_len _ _ _) h3))⟩
    have ec : cutD xs lo hi = xs := by
      unfold cutD
      rw [h2.len, hw.1, hw.2, List.drop_zero, Nat.sub_zero, ← h2.len, List.take_length]
    refine q _ _ (.atom ?_)
    rw [ec]
    exact h4
  · cases e
    obtain ⟨rfl, h1, h2⟩ := ra.str
    exact sl_str pins s σ H _ v vl vu lo hi sl Q I rx hs pl pu ⟨_, rfl, h2, q _ _ (.str (strOk_cut h1) (Nat.le_trans (cutS_length _ _ _) h2))⟩
  · cases e
/-! ### isinstance -/
theorem tyX_of {W : Addr → Prop} {H : Hp} {d : D} {x : V} (h : RepB X.K X.mg W H d x) (hf : isFnD d = false) : TyX X.K H x (.type (tyD d)) := by
  rcases h.inv with g | ⟨a, o, rfl, rfl, g⟩
  · clear h
    cases g with
    | non => exact .base .non
    | bl b => exact .base (.bl b)
    | int i => exact .base (.int i)
    | str x h l => exact .base (.str x)
    | lst h r l =>
      rcases h.sq with (h | ⟨o, h⟩) | ⟨o, its, n, h, hc, _⟩
      · exact .base (.lst h)
      · exact .base (.frz h)
      · exact .kList h hc
    | tup h r l =>
      rcases h.sq with (h | ⟨o, h⟩) | ⟨o, its, n, h, hc, _⟩
      · exact .base (.tup h)
      · exact .fTuple h
      · exact .kTuple h hc
    | dic h n k r l =>
      exact .base (.dK h)
    | fn h => cases hf
  · clear h
    cases g with
    | lst h r l => exact .base (.lst h)
    | dic h k r l => exact .base (.dK h)
def tyPairs : List (String × String) := (["NoneType", "bool", "int", "str", "list", "tuple", "dict"]).flatMap fun a => tyNames.map fun t => (a, t)
theorem kit_all : tyPairs.all (fun p => kitB p.1 p.2 == some (p.1 == p.2 || (p.1 == "bool" && p.2 == "int"))) = true := by decide +kernel
theorem tyD_in (d : D) : tyD d ∈ (["NoneType", "bool", "int", "str", "list", "tuple", "dict"] : List String) := by
  cases d <;> simp [tyD]
theorem kit_is {K : PySem.W.Frag} {d : D} {t : String} (ht : t ∈ tyNames) : PySem.W.kitOne K (.type (tyD d)) (.type t) = some (tyD d == t || (tyD d == "bool" && t == "int")) := by
  have h := List.all_eq_true.mp kit_all (tyD d, t) (List.mem_flatMap.mpr ⟨_, tyD_in d, List.mem_map.mpr ⟨t, ht, rfl⟩⟩)
  exact kit_ty (by simpa using h)
def rIsi' (K : PySem.W.Frag) (mg : Str → Option Value) (t : String) : List V → Hp → VK → Prop := fun xs H Q => ∃ (W : Addr → Prop) (x : V) (d : D) (c : Bool), xs = [x, .ty t] ∧ RepB K mg W H d x ∧ isiD d t = some c ∧ Q (.bl c) H
theorem call_isi' {t : String} (ht : t ∈ tyNames) : CallR X (.builtin "isinstance") (rIsi' X.K X.mg t) := by
  intro pins s σ H xs us Q I r h
  obtain ⟨W, x, d, c, rfl, hd, e, q⟩ := h
  unfold isiD at e
  split at e
  · cases e
  · rename_i hf
    cases e
    exact call_isi pins s σ H _ us Q I r ⟨x, _, _, _, _, rfl, .ty t, tyX_of hd (by simpa using hf), kit_is ht, q⟩
end
end GS

/-! GS7: built-in functions, methods, truth. -/
namespace GS
open PySem PySem.Spec PyProof.Rows L2

def biV : String → Value
  | "int" => .type "int"
  | "str" => .type "str"
  | "list" => .type "list"
  | "tuple" => .type "tuple"
  | "bool" => .type "bool"
  | "dict" => .type "dict"
  | f => .builtin f
def rBi (K : PySem.W.Frag) (mg : Str → Option Value) (f : String) : List V → Hp → VK → Prop := fun vs H Q => ∃ (W : Addr → Prop) (ds : List D) (rv : RV), (∀ p, W p → H p ≠ none) ∧ RepBs K mg W H ds vs ∧ biD f ds = some rv ∧
  ∀ v H', PostV K mg W H rv v H' → Q v H'
section
variable {K : PySem.W.Frag} {mg : Str → Option Value} {W : Addr → Prop} {H : Hp}
theorem plain_hasDict {d : D} (h : d.canLay0 = true) : d.hasDict = false := PyData.hasDict_of_canLay d h
end
section
variable {K : PySem.W.Frag} {mg : Str → Option Value} {W0 W : Addr → Prop} {s s' s1 : Ev} {σ : L2.St} {H H' H1 : Hp} {i : Nat} {p : Addr} {o o' : Ob}
/-- the pairs of a dict -/
structure KvR (K : PySem.W.Frag) (mg : Str → Option Value) (W : Addr → Prop) (H : Hp) (kvs : List (D × D)) (kws : List (Key × V)) : Prop where
  ks : kvs.map (·.1) = kws.map fun p => keyD p.1
  vs : RepA K mg W H (kvs.map (·.2)) (kws.map (·.2))
theorem KvR.nil : KvR K mg W H [] [] := ⟨rfl, .nil⟩
theorem any_key (k : Key) : ∀ {kvs : List (D × D)} {kws : List (Key × V)}, kvs.map (·.1) = (kws.map fun p => keyD p.1) → (kvs.any fun p => keyEq p.1 (keyD k)) = kws.any fun kv => decide (kv.1 = k)
  | [], [], _ => rfl
  | p :: kvs, q :: kws, h => by
    rw [List.map_cons, List.map_cons] at h
    injection h with h1 h2
    rw [List.any_cons, List.any_cons, any_key k h2, h1, keyEq_is]
  | [], _ :: _, h => by cases h
  | _ :: _, [], h => by cases h
theorem KvR.putM (k : Key) {d : D} {v : V} (r : Rep K mg W H d v) : ∀ {kvs : List (D × D)} {kws : List (Key × V)}, KvR K mg W H kvs kws →
    KvR K mg W H (kvs.map fun p => if keyEq p.1 (keyD k) then (p.1, d) else p) (kws.map fun kv => if kv.1 = k then (kv.1, v) else kv)
  | [], [], _ => .nil
  | p :: kvs, q :: kws, h => by
    have hk := h.ks
    have hv := h.vs
    rw [List.map_cons, List.map_cons] at hk hv
    injection hk with h1 h2
    cases hv with
    | cons h3 h4 =>
      obtain ⟨ih1, ih2⟩ := KvR.putM k r ⟨h2, h4⟩
      rw [List.map_cons, List.map_cons, h1, keyEq_is]
      by_cases e : q.1 = k
      · rw [if_pos (by rw [e]; exact decide_eq_true rfl), if_pos e]
        refine ⟨?_, ?_⟩
        · rw [List.map_cons, List.map_cons, ih1]
        · rw [List.map_cons, List.map_cons]
          exact .cons r ih2
      · rw [if_neg (by rw [decide_eq_false e]; decide), if_neg e]
        refine ⟨?_, ?_⟩
        · rw [List.map_cons, List.map_cons, ih1, h1]
        · rw [List.map_cons, List.map_cons]
          exact .cons h3 ih2
  | [], _ :: _, h => by cases h.ks
  | _ :: _, [], h => by cases h.ks
theorem KvR.put (k : Key) {d : D} {v : V} {kvs : List (D × D)} {kws : List (Key × V)} (h : KvR K mg W H kvs kws) (r : Rep K mg W H d v) : KvR K mg W H (putD (keyD k) d kvs) (putK kws k v) := by
  unfold putD putK
  rw [any_key k h.ks]
  by_cases e : (kws.any fun kv => decide (kv.1 = k)) = true
  · rw [if_pos e, if_pos e]
    exact KvR.putM k r h
  · rw [if_neg e, if_neg e]
    refine ⟨?_, ?_⟩
    · rw [List.map_append, List.map_append, h.ks]; rfl
    · rw [List.map_append, List.map_append]
      exact h.vs.append (.cons r .nil)
theorem KvR.merge : ∀ {more : List (D × D)} {mws : List (Key × V)} {kvs : List (D × D)} {kws : List (Key × V)}, KvR K mg W H more mws → KvR K mg W H kvs kws → KvR K mg W H (mergeD kvs more) (mergeK kws mws)
  | [], [], _, _, _, q => q
  | p :: more, m :: mws, kvs, kws, h, q => by
    have hk := h.ks
    have hv := h.vs
    rw [List.map_cons, List.map_cons] at hk hv
    injection hk with h1 h2
    cases hv with
    | cons h3 h4 =>
      have z := KvR.merge (more := more) (mws := mws) ⟨h2, h4⟩ (q.put m.1 h3)
      rw [← h1] at z
      exact z
  | [], _ :: _, _, _, h, _ => by cases h.ks
  | _ :: _, [], _, _, h, _ => by cases h.ks
theorem KvR.len {kvs : List (D × D)} {kws : List (Key × V)} (h : KvR K mg W H kvs kws) : kvs.length = kws.length := by
  have := congrArg List.length h.ks
  rw [List.length_map, List.length_map] at this
  exact this
theorem KvR.mv {W' : Addr → Prop} {kvs : List (D × D)} {kws : List (Key × V)} (k : Keep W H W' H') (h : KvR K mg W H kvs kws) : KvR K mg W' H' kvs kws := ⟨h.ks, h.vs.mv k⟩
theorem putD_len (k d : D) (kvs : List (D × D)) : (putD k d kvs).length ≤ kvs.length + 1 := by
  unfold putD
  split
  · rw [List.length_map]; omega
  · rw [List.length_append]; exact Nat.le_refl _
theorem mergeD_len : ∀ (more kvs : List (D × D)), (mergeD kvs more).length ≤ kvs.length + more.length
  | [], kvs => Nat.le_refl _
  | p :: r, kvs => by
    have h1 := mergeD_len r (putD p.1 p.2 kvs)
    have h2 := putD_len p.1 p.2 kvs
    show (mergeD (putD p.1 p.2 kvs) r).length ≤ kvs.length + (r.length + 1)
    omega
end
section
variable {X : Cx}
theorem some_bind {α β : Type} {o : Option α} {f : α → Option β} {b : β} (h : o.bind f = some b) : ∃ a, o = some a ∧ f a = some b := Option.bind_eq_some_iff.mp h
theorem some_map {α β : Type} {o : Option α} {f : α → β} {b : β} (h : o.map f = some b) : ∃ a, o = some a ∧ f a = b := Option.map_eq_some_iff.mp h
theorem atom_rep {W : Addr → Prop} {H : Hp} {d : D} {v : V} (h : RepB X.K X.mg W H d v) (n : ∀ o : Ob, d ≠ o.toD) : Rep X.K X.mg W H d v := by
  rcases h.inv with h | ⟨a, o, rfl, e, h⟩
  · exact h
  · exact absurd e (n o)
theorem call_repr' (hg : X.A.guards = some []) (hu : X.A.units + 100 < cLine) {pins : List (Addr × Obj)} {s : Shared} {σ : L2.St} {H : Hp} {W : Addr → Prop} {d : D} {x : V} {u : Value} {Q : VK} (I : Inv X pins σ H s) (rx : RelV x u)
    (rd : RepB X.K X.mg W H d x) (h1 : d.showable = true) (h2 : plainD d = true) (h3 : d.depth ≤ 60) (h4 : d.shown.length ≤ sizeLine) (q : Q (.str d.shown) H) :
    wpAny (model X.prog X.w) X.A (call (.builtin "repr") [u]) (EP X pins σ Q) X.xe s := by
  obtain ⟨⟨as, rr⟩, hl⟩ := rd.reads I rx h2
  have fin : ∀ h' t tk, (∀ b o, s.heap.get? b = some o → h'.get? b = some o) → EP X pins σ Q (.str d.shown t) { s with heap := h', toks := tk } := fun h' t tk hk => ⟨.str d.shown, H, I.kept hk, ⟨_, rfl⟩, q⟩
  cases d with
  | none =>
    obtain rfl := rd.non
    cases rx
    exact PySem.P.repr_of_none ⟨.str _, H, I.tok _, ⟨_, rfl⟩, q⟩
  | bool b =>
    obtain rfl := rd.bl
    cases rx
    exact PySem.P.repr_of_bool ⟨.str _, H, I.tok _, ⟨_, rfl⟩, by
      have e : (PyData.bool b).shown = (if b then "True" else "False" : Str) := rfl
      rw [e] at q
      cases b <;> exact q⟩
  | int i =>
    obtain rfl := rd.int
    obtain ⟨t, rfl⟩ := rx
    exact PySem.P.repr_of_int (by simpa [PyData.showable] using h1) ⟨.str _, H, I.tok _, ⟨_, rfl⟩, q⟩
  | str z =>
    obtain ⟨rfl, _, _⟩ := rd.str
    obtain ⟨t, rfl⟩ := rx
    exact PySem.P.repr_of_str ⟨.str _, H, I.tok _, ⟨_, rfl⟩, q⟩ h4
  | list xs =>
    obtain ⟨a, vs, rfl, _⟩ := rd.lst
    cases rx
    exact repr_of_reads' rr h1 (fun z => by rw [plain_hasDict hl] at z; cases z) hg (by omega) (fun _ _ h => h) fin h4
  | tuple xs =>
    obtain ⟨a, vs, rfl, _⟩ := rd.tup
    cases rx
    exact repr_of_reads' rr h1 (fun z => by rw [plain_hasDict hl] at z; cases z) hg (by omega) (fun _ _ h => h) fin h4
  | dict kvs => cases h2
theorem each_of {R : Value → D → Prop} : ∀ {us : List Value} {xs : List D}, us.length = xs.length → (∀ (i : Nat) (u : Value) (x : D), us[i]? = some u → xs[i]? = some x → R u x) → PySem.W.EachIs R us xs
  | [], [], _, _ => .nil
  | u :: us, x :: xs, l, h => .cons (h 0 u x rfl rfl) (each_of (Nat.succ.inj l) fun i u' x' e1 e2 => h (i + 1) u' x' e1 e2)
  | [], _ :: _, l, _ => by cases l
  | _ :: _, [], l, _ => by cases l
theorem each_vals {W : Addr → Prop} {H : Hp} : ∀ {us : List Value} {xs : List D}, PySem.W.EachIs (fun u x => ∃ v, RelV v u ∧ Rep X.K X.mg W H x v) us xs → ∃ vs, Vals vs us ∧ RepA X.K X.mg W H xs vs
  | _, _, .nil => ⟨[], .nil, .nil⟩
  | _, _, .cons h r => by
    obtain ⟨v, h1, h2⟩ := h
    obtain ⟨vs, h3, h4⟩ := each_vals r
    exact ⟨v :: vs, .cons h1 h3, .cons h2 h4⟩
theorem depth_in : ∀ {xs : List D} {x : D}, x ∈ xs → x.depth ≤ PyData.depthAll xs
  | y :: ys, x, h => by
    rw [PyData.depthAll]
    rcases List.mem_cons.mp h with rfl | h
    · exact Nat.le_max_left _ _
    · exact Nat.le_trans (depth_in h) (Nat.le_max_right _ _)
theorem plain_in : ∀ {xs : List D} {x : D}, plainA xs = true → x ∈ xs → plainD x = true
  | y :: ys, x, h, m => by
    rw [plainA, Bool.and_eq_true] at h
    rcases List.mem_cons.mp m with rfl | m
    · exact h.1
    · exact plain_in h.2 m
/-- sorted(xs), a list of data alike -/
theorem call_sorted' (hu : X.A.units + 100 < cLine) {pins : List (Addr × Obj)} {s : Shared} {σ : L2.St} {H : Hp} {W : Addr → Prop} {xs : List D} {vs : List V} {a : Addr} {Q : VK} (I : Inv X pins σ H s) (hW : ∀ p, W p → H p ≠ none)
    (hq : SqL X.K H a vs) (r : RepA X.K X.mg W H xs vs) (l : xs.length ≤ sizeLine) (ok : sortB xs = true) (q : ∀ v H', PostV X.K X.mg W H (.own (.lst (sortD xs))) v H' → Q v H') :
    wpAny (model X.prog X.w) X.A (call (.builtin "sorted") [.ref a]) (EP X pins σ Q) X.xe s := by
  unfold sortB at ok
  simp only [Bool.and_eq_true, decide_eq_true_eq, List.all_eq_true, Bool.or_eq_true] at ok
  obtain ⟨⟨⟨pl, al⟩, kinds⟩, dp⟩ := ok
  obtain ⟨us, rv, hl, _⟩ := I.list hq
  have len : us.length = xs.length := by rw [r.len, rv.length]
  have each : PySem.W.EachIs (fun u x => ∃ v, RelV v u ∧ Rep X.K X.mg W H x v) us xs := each_of len fun i u x e1 e2 => by
    obtain ⟨v, e3, r3⟩ := r.get e2
    obtain ⟨u', e4, r4⟩ := rv.get e3
    rw [e1] at e4
    cases e4
    exact ⟨v, r4, r3⟩
  have reads : PySem.W.EachIs (fun u (x : D) => ∃ as, Reads s.heap u x as) us xs := each_of len fun i u x e1 e2 => by
    obtain ⟨v, e3, r3⟩ := r.get e2
    obtain ⟨u', e4, r4⟩ := rv.get e3
    rw [e1] at e4
    cases e4
    exact ((RepB.of r3).reads I r4 (plain_in pl (List.mem_of_getElem? e2))).1
  refine PySem.W.sorted_data (enc := id) hl.isList each reads (by rw [List.map_id]; exact fun d hd d' hd' => al d hd d' hd') ?_ l (fun b hb => by
    have := depth_in hb
    show X.A.units + 2 + b.depth < cLine
    omega) fun out lo eo => ?_
  · rw [List.map_id]
    rcases kinds with k | k
    · refine .inl fun d hd => ?_
      have := k d hd
      unfold tupNe at this
      split at this
      · exact ⟨_, _, rfl⟩
      · cases this
    · refine .inr fun d hd => ?_
      have := k d hd
      exact ⟨fun z => (by rw [z] at this; cases this), fun ys z => (by rw [z] at this; cases this)⟩
  · obtain ⟨ws, rw', rr⟩ := each_vals eo
    have new : H (s.heap.objs.size + 1) = none := I.hok.fresh (Nat.le_succ _)
    have lw : ws.length ≤ sizeLine := by rw [rw'.length, lo]; exact l
    obtain ⟨ep, at'⟩ := PyProof.Rows.sortedAll_at s.heap us out.toArray
    have ls : (sortD xs).length ≤ sizeLine := by
      unfold sortD
      rw [List.length_mergeSort]
      exact l
    exact ⟨.ref _, _, I.laid (o := .lst ws) (t' := s.toks) (fun _ _ => PyProof.Rows.sortedAll_old) (Nat.le_succ _) ⟨lw, out, ep, rw', at'⟩, rfl, q _ _ (.newL new rr ls)⟩
theorem pairs_ok : ∀ {xs : List D} {vs : List V} {kvs : List (D × D)} {W : Addr → Prop} {H : Hp}, RepA X.K X.mg W H xs vs → pairsD xs = some kvs → ∃ (ps : List Addr) (kws : List (Key × V)), vs = ps.map V.ref ∧ Paired (fun p kv => SqT X.K H p [kV kv.1, kv.2]) ps kws ∧ kvs.map (·.1) = (kws.map fun p => keyD p.1) ∧ RepA X.K X.mg W H (kvs.map (·.2)) (kws.map (·.2))
  | [], _, _, _, _, r, h => by
    cases r
    cases h
    exact ⟨[], [], rfl, .nil, rfl, .nil⟩
  | .tuple [k, v] :: xs, _, _, W, H, r, h => by
    cases r with
    | @cons _ w _ ws h1 r =>
      have h : (if keyOk k then (pairsD xs).map ((k, v) :: ·) else none) = some _ := h
      split at h
      · rename_i hk
        obtain ⟨rest, e1, rfl⟩ := some_map h
        obtain ⟨ps, kws, e2, e3, e4, e5⟩ := pairs_ok r e1
        obtain ⟨j, rfl⟩ := keyOk_of hk
        obtain ⟨p, us, rfl, g1, g2, _⟩ := (RepB.of h1).tup
        cases g2 with
        | cons k1 g2 =>
          cases g2 with
          | @cons _ u _ _ k2 g2 =>
            cases g2
            have := keyRep (RepB.of k1)
            subst this
            exact ⟨p :: ps, (j, u) :: kws, by rw [e2]; rfl, .cons g1 e3, by rw [List.map_cons, List.map_cons, e4], .cons k2 e5⟩
      · cases h
  | .none :: _, _, _, _, _, _, h => by cases h
  | .bool _ :: _, _, _, _, _, _, h => by cases h
  | .int _ :: _, _, _, _, _, _, h => by cases h
  | .str _ :: _, _, _, _, _, _, h => by cases h
  | .list _ :: _, _, _, _, _, _, h => by cases h
  | .dict _ :: _, _, _, _, _, _, h => by cases h
  | .tuple [] :: _, _, _, _, _, _, h => by cases h
  | .tuple [_] :: _, _, _, _, _, _, h => by cases h
  | .tuple (_ :: _ :: _ :: _) :: _, _, _, _, _, _, h => by cases h
theorem pairsD_len : ∀ {xs : List D} {kvs : List (D × D)}, pairsD xs = some kvs → kvs.length = xs.length
  | [], _, h => by cases h; rfl
  | .tuple [k, v] :: xs, _, h => by
    have h : (if keyOk k then (pairsD xs).map ((k, v) :: ·) else none) = some _ := h
    split at h
    · obtain ⟨rest, e1, rfl⟩ := some_map h
      rw [List.length_cons, List.length_cons, pairsD_len e1]
    · cases h
  | .none :: _, _, h => by cases h
  | .bool _ :: _, _, h => by cases h
  | .int _ :: _, _, h => by cases h
  | .str _ :: _, _, h => by cases h
  | .list _ :: _, _, h => by cases h
  | .dict _ :: _, _, h => by cases h
  | .tuple [] :: _, _, h => by cases h
  | .tuple [_] :: _, _, h => by cases h
  | .tuple (_ :: _ :: _ :: _) :: _, _, h => by cases h
theorem call_bi (hc : X.calm = true) (hg : X.A.guards = some []) (hu : X.A.units + 100 < cLine) (f : String) : CallR X (biV f) (rBi X.K X.mg f) := by
  intro pins s σ H xs us Q I r h
  obtain ⟨W, ds, rv, hW, rd, e, q⟩ := h
  unfold biD at e
  split at e
  · -- len
    obtain ⟨x, rfl, rx⟩ := rd.one
    obtain ⟨n, e1, rfl⟩ := some_map e
    have q' := q _ _ (.int (i := (n : Int)))
    unfold D.len at e1
    split at e1
    · cases e1
      obtain ⟨rfl, h1, h2⟩ := rx.str
      exact call_len pins s σ H _ us Q I r ⟨_, _, rfl, ⟨h2, rfl⟩, q'⟩
    · cases e1
      obtain ⟨a, vs, rfl, h1, h2, h3⟩ := rx.lst
      rw [h2.len] at q'
      exact call_len pins s σ H _ us Q I r ⟨_, _, rfl, .inl ⟨_, h1, rfl⟩, q'⟩
    · cases e1
      obtain ⟨a, vs, rfl, h1, h2, h3, _⟩ := rx.tup
      rw [h2.len] at q'
      exact call_len pins s σ H _ us Q I r ⟨_, _, rfl, .inr ⟨_, h1, rfl⟩, q'⟩
    · split at e1
      · cases e1
      · rename_i hf
        cases e1
        obtain ⟨a, kws, rfl, h1, h2, h3, h4⟩ := rx.dic (by simpa using hf)
        obtain ⟨u, rfl, ru⟩ := vals1 r
        cases ru
        have hl : (List.length kws) = List.length ‹List (D × D)› := by
          have := congrArg List.length h2
          rw [List.length_map, List.length_map] at this
          exact this.symm
        rw [← hl] at q'
        exact d_len I (.inl h1) fun t s' I' => ⟨.int kws.length, H, I', ⟨t, rfl⟩, q'⟩
    · cases e1
  · -- all
    obtain ⟨x, rfl, rx⟩ := rd.one
    obtain ⟨bs, e1, rfl⟩ := some_map e
    obtain ⟨xs, e2, e3⟩ := some_bind e1
    obtain ⟨a, vs, rfl, h1, h2, h3⟩ := lstD_ok rx e2
    obtain rfl := bools_ok h2 e3
    exact cr_all hc pins s σ H _ us Q I r ⟨a, bs, rfl, h1, q _ _ .bl⟩
  · -- any
    obtain ⟨x, rfl, rx⟩ := rd.one
    obtain ⟨bs, e1, rfl⟩ := some_map e
    obtain ⟨xs, e2, e3⟩ := some_bind e1
    obtain ⟨a, vs, rfl, h1, h2, h3⟩ := lstD_ok rx e2
    obtain rfl := bools_ok h2 e3
    exact cr_any hc pins s σ H _ us Q I r ⟨a, bs, rfl, h1, q _ _ .bl⟩
  · -- sum
    obtain ⟨x, rfl, rx⟩ := rd.one
    obtain ⟨bs, e1, rfl⟩ := some_map e
    obtain ⟨xs, e2, e3⟩ := some_bind e1
    obtain ⟨a, vs, rfl, h1, h2, h3⟩ := lstD_ok rx e2
    obtain rfl := ints_ok h2 e3
    exact cr_sum hc pins s σ H _ us Q I r ⟨a, bs, rfl, h1, q _ _ .int⟩
  · -- min
    cases e
    obtain ⟨x, y, rfl, rx, ry⟩ := rd.two
    cases rx.int; cases ry.int
    exact call_min2 hc pins s σ H _ us Q I r ⟨_, _, rfl, q _ _ .int⟩
  · -- max
    cases e
    obtain ⟨x, y, rfl, rx, ry⟩ := rd.two
    cases rx.int; cases ry.int
    exact call_max2 hc pins s σ H _ us Q I r ⟨_, _, rfl, q _ _ .int⟩
  · -- abs
    cases e
    obtain ⟨x, rfl, rx⟩ := rd.one
    cases rx.int
    exact call_abs pins s σ H _ us Q I r ⟨_, rfl, q _ _ .int⟩
  · -- int
    cases e
    obtain ⟨x, rfl, rx⟩ := rd.one
    cases rx.int
    exact call_int1 pins s σ H _ us Q I r (.inl ⟨_, rfl, q _ _ .int⟩)
  · cases e
    obtain ⟨x, rfl, rx⟩ := rd.one
    cases rx.bl
    exact call_int1 pins s σ H _ us Q I r (.inr ⟨_, rfl, q _ _ .int⟩)
  · split at e
    · rename_i hl
      obtain ⟨n, e1, rfl⟩ := some_map e
      obtain ⟨x, rfl, rx⟩ := rd.one
      obtain ⟨rfl, _, _⟩ := rx.str
      exact call_int_str pins s σ H _ us Q I r ⟨_, n, rfl, e1, hl, q _ _ .int⟩
    · cases e
  · -- str
    split at e
    · rename_i hl
      cases e
      simp only [Bool.and_eq_true, decide_eq_true_eq] at hl
      obtain ⟨x, rfl, rx⟩ := rd.one
      cases rx.int
      exact call_str_int pins s σ H _ us Q I r ⟨_, rfl, hl.1, q _ _ (.str hl.2 (int_text_fits hl.1))⟩
    · cases e
  · -- list
    obtain ⟨x, rfl, rx⟩ := rd.one
    obtain ⟨xs, e1, rfl⟩ := some_map e
    obtain ⟨a, vs, rfl, h1, h2, h3, _⟩ := seq_ok rx e1
    exact call_list_of pins s σ H _ us Q I r ⟨a, vs, rfl, h1, fun l hl => q _ _ (.newL hl h2 h3)⟩
  · -- tuple
    obtain ⟨x, rfl, rx⟩ := rd.one
    obtain ⟨xs, e1, rfl⟩ := some_map e
    obtain ⟨a, vs, rfl, h1, h2, h3, h4, h5, h6⟩ := seq_ok rx e1
    rcases h6 with h6 | h6
    · exact call_tuple_of pins s σ H _ us Q I r ⟨a, vs, rfl, .inl ⟨h5 h6, fun l hl => q _ _ (.newT hl (fun z => hW l z hl) h2 h3)⟩⟩
    · exact call_tuple_of pins s σ H _ us Q I r ⟨a, vs, rfl, .inr ⟨(h4 h6).2, q _ _ (.atom (h4 h6).1)⟩⟩
  · -- str str
    cases e
    obtain ⟨x, rfl, rx⟩ := rd.one
    obtain ⟨rfl, h1, h2⟩ := rx.str
    exact SkE.call_str_str pins s σ H _ us Q I r ⟨_, rfl, q _ _ (.str h1 h2)⟩
  · -- sorted
    obtain ⟨xs, e1, e2⟩ := some_bind e
    split at e2
    · rename_i ok
      cases e2
      obtain ⟨x, rfl, rx⟩ := rd.one
      obtain ⟨a, vs, rfl, h1, h2, h3⟩ := lstD_ok rx e1
      obtain ⟨u, rfl, ru⟩ := vals1 r
      cases ru
      exact call_sorted' hu I hW h1 h2 h3 ok q
    · cases e2
  · -- dict
    obtain ⟨kvs, e1, rfl⟩ := some_map e
    obtain ⟨xs, e2, e3⟩ := some_bind e1
    obtain ⟨x, rfl, rx⟩ := rd.one
    obtain ⟨a, vs, rfl, h1, h2, h3⟩ := lstD_ok rx e2
    obtain ⟨ps, kws, rfl, g1, g2, g3⟩ := pairs_ok h2 e3
    have ln := pairsD_len e3
    refine call_dictP hc pins s σ H _ us Q I r ⟨a, ps, kws, rfl, h1, g1, fun p hp => q _ _ ⟨grow_upd hp, p, rfl, hp, ?_⟩⟩
    have kv := (KvR.merge (mg := X.mg) (K := X.K) (W := W) (H := H) ⟨g2, g3⟩ KvR.nil).mv (kp_new (o := .dK (mergeK [] kws)) hp)
    refine .dic upd_same kv.ks kv.vs ?_
    have := mergeD_len kvs []
    rw [List.length_nil] at this
    omega
  · cases e
    obtain ⟨x, rfl, rx⟩ := rd.one
    cases rx.int
    exact call_bool1 pins s σ H _ us Q I r (.inl ⟨_, rfl, q _ _ .bl⟩)
  · cases e
    obtain ⟨x, rfl, rx⟩ := rd.one
    cases rx.bl
    exact call_bool1 pins s σ H _ us Q I r (.inr ⟨_, rfl, q _ _ .bl⟩)
  · split at e
    · rename_i hl
      cases e
      simp only [Bool.and_eq_true, decide_eq_true_eq] at hl
      obtain ⟨x, rfl, rx⟩ := rd.one
      obtain ⟨u, rfl, ru⟩ := vals1 r
      exact call_repr' hg hu I ru rx hl.1.1.1.1 hl.1.1.1.2 hl.1.1.2 hl.1.2 (q _ _ (.str hl.2 hl.1.2))
    · cases e
  · cases e
/-! ### methods that change nothing -/
def rMt (K : PySem.W.Frag) (mg : Str → Option Value) (m : String) : V → List V → Hp → VK → Prop := fun x vs H Q => ∃ (W : Addr → Prop) (a : D) (ds : List D) (rv : RV), RepB K mg W H a x ∧ RepBs K mg W H ds vs ∧ (m = "get" → RepA K mg W H ds vs) ∧ methD m a ds = some rv ∧
  ∀ v H', PostV K mg W H rv v H' → Q v H'
/-- whose method -/
def mtT (m : String) : String := if m == "get" then "dict" else "str"
theorem mt_any (hu : X.A.units + 100 < cLine) (m : String) : MtR X (mtT m ++ "." ++ m) (rMt X.K X.mg m) := by
  intro pins s σ H x xs v us Q I rx r h
  obtain ⟨W, a, ds, rv, ra, rd, rA, e, q⟩ := h
  unfold methD at e
  split at e
  · cases e
    obtain ⟨y, rfl, ry⟩ := rd.one
    obtain ⟨rfl, _, _⟩ := ra.str
    obtain ⟨rfl, _, _⟩ := ry.str
    exact mt_startswith pins s σ H _ _ v us Q I rx r ⟨_, _, rfl, rfl, q _ _ .bl⟩
  · obtain ⟨ys, e1, e2⟩ := some_bind e
    obtain ⟨zs, e3, e4⟩ := some_bind e1
    split at e2
    · rename_i hl
      cases e2
      simp only [Bool.and_eq_true, decide_eq_true_eq] at hl
      obtain ⟨y, rfl, ry⟩ := rd.one
      obtain ⟨rfl, _, _⟩ := ra.str
      obtain ⟨p, vs, rfl, h1, h2, h3, _⟩ := seq_ok ry e3
      obtain ⟨rfl, _⟩ := strs_ok h2 e4
      exact mt_join pins s σ H _ _ v us Q I rx r ⟨_, p, ys, rfl, rfl, h1, hl.1.1, q _ _ (.str hl.2 hl.1.2)⟩
    · cases e2
  · split at e
    · rename_i ho
      cases e
      obtain ⟨y, rfl, ry⟩ := rd.one
      obtain ⟨rfl, _, _⟩ := ra.str
      obtain ⟨rfl, _, _⟩ := ry.str
      exact mt_sindex pins s σ H _ _ v us Q I rx r ⟨_, _, _, _, rfl, rfl, ho, q _ _ .int⟩
    · cases e
  · cases e
    obtain ⟨y, rfl, ry⟩ := rd.one
    obtain ⟨rfl, _, _⟩ := ra.str
    obtain ⟨rfl, _, _⟩ := ry.str
    exact mt_endswith pins s σ H _ _ v us Q I rx r ⟨_, _, rfl, rfl, q _ _ .bl⟩
  · split at e
    · rename_i hl
      cases e
      simp only [Bool.and_eq_true, decide_eq_true_eq, List.all_eq_true] at hl
      obtain ⟨⟨⟨hb, hz⟩, hs⟩, hn⟩ := hl
      obtain ⟨y, rfl, ry⟩ := rd.one
      obtain ⟨rfl, _, _⟩ := ra.str
      obtain ⟨rfl, _, _⟩ := ry.str
      have reps : ∀ (l : List Str), (∀ z ∈ l, PyData.strOk z = true ∧ z.length ≤ sizeLine) → RepA X.K X.mg W H (l.map PyData.str) (l.map V.str) := fun l hl => by
        induction l with
        | nil => exact .nil
        | cons z l ih => exact .cons (.str z (hl z List.mem_cons_self).1 (hl z List.mem_cons_self).2) (ih fun y hy => hl y (List.mem_cons_of_mem _ hy))
      exact mt_split pins s σ H _ _ v us Q I rx r ⟨_, _, rfl, rfl, by simpa using hb, hz, fun p hp => q _ _ (.newL hp (reps _ hs) (by rw [List.length_map]; exact hn))⟩
    · cases e
  · cases e
    obtain ⟨y, rfl, ry⟩ := rd.one
    obtain ⟨rfl, _, _⟩ := ra.str
    obtain ⟨rfl, _, _⟩ := ry.str
    exact mt_find pins s σ H _ _ v us Q I rx r ⟨_, _, rfl, rfl, q _ _ .int⟩
  · cases e
    obtain ⟨y, rfl, ry⟩ := rd.one
    obtain ⟨rfl, _, _⟩ := ra.str
    obtain ⟨rfl, _, _⟩ := ry.str
    exact mt_count pins s σ H _ _ v us Q I rx r ⟨_, _, rfl, rfl, q _ _ .int⟩
  · split at e
    · rename_i hl
      cases e
      simp only [Bool.and_eq_true, Bool.not_eq_true'] at hl
      obtain ⟨y, rfl, ry⟩ := rd.one
      obtain ⟨k, rfl⟩ := keyOk_of hl.1
      have hk := keyRep ry
      subst hk
      obtain ⟨p, kws, rfl, hr, hk, hv, hz⟩ := ra.dic hl.2
      cases rx
      obtain ⟨u, rfl, ru⟩ := vals1 r
      refine d_get1 (by omega) I (.inl ⟨kws, k, .inl hr, rfl, rfl⟩) ru fun w' s' I' rw' => ⟨_, H, I', rw', q _ _ (.atom ?_)⟩
      rcases look_ok k hk hv with ⟨h1, h2⟩ | ⟨d', w, h1, h2, h3⟩
      · rw [h1, h2]; exact .non
      · rw [h1, h2]; exact h3
    · cases e
  · split at e
    · rename_i hl
      cases e
      simp only [Bool.and_eq_true, Bool.not_eq_true'] at hl
      obtain ⟨y, z, rfl, ry, _⟩ := rd.two
      obtain ⟨k, rfl⟩ := keyOk_of hl.1
      have hk := keyRep ry
      subst hk
      obtain ⟨p, kws, rfl, hr, hk, hv, hz⟩ := ra.dic hl.2
      cases rx
      obtain ⟨u, w2, rfl, ru, rw2⟩ := vals2 r
      refine d_get2 (by omega) I (.inl ⟨kws, k, .inl hr, rfl, rfl⟩) ru rw2 fun w' s' I' rw' => ⟨_, H, I', rw', q _ _ (.atom ?_)⟩
      rcases look_ok k hk hv with ⟨h1, h2⟩ | ⟨d', w, h1, h2, h3⟩
      · rw [h1, h2]
        cases rA rfl with
        | cons _ r2 => cases r2 with
          | cons r3 _ => exact r3
      · rw [h1, h2]; exact h3
    · cases e
  · cases e
/-! ### truth -/
theorem tru_V {K : PySem.W.Frag} {mg : Str → Option Value} {W : Addr → Prop} {H : Hp} {x : V} {d : D} {k : Bool} (r : RepB K mg W H d x) (e : truD d = some k) : TruV K x H k := by
  cases d with
  | none => obtain rfl := r.non; cases e; exact rfl
  | bool b => obtain rfl := r.bl; cases e; exact rfl
  | int i => obtain rfl := r.int; cases e; exact rfl
  | str y =>
    obtain ⟨rfl, _, small⟩ := r.str
    cases e
    refine ⟨small, ?_⟩
    cases y.length with
    | zero => rfl
    | succ m =>
      have : ¬ ((m + 1 : Nat) : Int) = 0 := by omega
      rw [bne_iff_ne.mpr this]
      rfl
  | list xs =>
    obtain ⟨a, vs, rfl, at', items, _⟩ := r.lst
    cases e
    exact .inl ⟨vs, at', by cases items <;> rfl⟩
  | tuple xs =>
    obtain ⟨a, vs, rfl, at', items, _⟩ := r.tup
    cases e
    exact .inr (.inl ⟨vs, at', by cases items <;> rfl⟩)
  | dict kvs =>
    replace e : (if isFnB kvs then none else some (!kvs.isEmpty)) = some k := e
    split at e
    · cases e
    · rename_i nf
      cases e
      obtain ⟨a, kws, rfl, at', keys, _⟩ := r.dic (by simpa using nf)
      refine .inr (.inr ⟨kws, at', ?_⟩)
      cases kvs <;> cases kws <;> first | rfl | cases keys
end
end GS

/-! GS8: the wishes of the evaluator, frozen slots, lists of values. -/
namespace GS
open PySem PySem.Spec PyProof.Rows L2

section
variable {K : PySem.W.Frag} {mg : Str → Option Value} {W0 : Addr → Prop} {s s' s1 s2 : Ev} {σ σ' σ1 : L2.St} {H H' H1 H2 : Hp} {v : V} {rv : RV} {i : Nat}
theorem set_ne {x : Sl} {j : Nat} (h : i ≠ j) : (s.set i x)[j]? = s[j]? := List.getElem?_set_ne h
theorem set_at {x : Sl} (h : i < s.length) : (s.set i x)[i]? = some x := List.getElem?_set_self h
theorem lt_of {x : Sl} (h : s[i]? = some x) : i < s.length := (List.getElem?_eq_some_iff.mp h).1
theorem own_at {o : Ob} (h : s[i]? = some (.own o)) : ownAt s i = some o := by unfold ownAt; rw [h]
theorem io_at {o : Ob} (h : s[i]? = some (.io o)) : ownAt s i = some o := by unfold ownAt; rw [h]
/-- the slot i gives up what it owned -/
theorem own_less {x : Sl} (hx : isOwn (some x) = false) {a : Addr} (h : OwnP (s.set i x) σ a) : OwnP s σ a ∧ (i < s.length → σ[i]? = some (some (.ref a)) → ∃ j, j ≠ i ∧ isOwn s[j]? = true ∧ σ[j]? = some (some (.ref a))) := by
  obtain ⟨j, h1, h2⟩ := h
  by_cases e : i = j
  · subst e
    by_cases hl : i < s.length
    · rw [set_at hl] at h1; rw [hx] at h1; cases h1
    · rw [List.getElem?_set] at h1
      rw [if_pos rfl, if_neg hl] at h1
      cases h1
  · rw [set_ne e] at h1
    exact ⟨⟨j, h1, h2⟩, fun _ _ => ⟨j, Ne.symm e, h1, h2⟩⟩
theorem Rel.frz {o : Ob} (R : Rel K mg W0 s σ H) (h : s[i]? = some (.own o)) : Rel K mg W0 (s.set i (.val o.toD)) σ H ∧ Mv s σ H (s.set i (.val o.toD)) σ H := by
  have hl := lt_of h
  obtain ⟨p, hp, n0, ob⟩ := R.own i o (own_at h)
  have less : ∀ a, OwnP (s.set i (.val o.toD)) σ a → OwnP s σ a := fun a z => (own_less rfl z).1
  have k : Keep (Wf W0 s σ) H (Wf W0 (s.set i (.val o.toD)) σ) H := ⟨fun a u h _ => h, fun a z => .inl (z.imp id (less a))⟩
  have np : ¬ Wf W0 (s.set i (.val o.toD)) σ p := fun z => z.elim n0 fun z => by
    obtain ⟨j, h1, h2, h3⟩ := (own_less rfl z).2 hl hp
    exact h1 (R.dis j i p h2 (by rw [h]; rfl) h3 hp)
  refine ⟨⟨by rw [List.length_set]; exact R.len, R.out, fun j d hj => ?_, fun j q hj => ?_, fun j m a h1 h2 h3 h4 => ?_⟩, ⟨fun _ _ h _ => h, fun a z => .inl (less a z), fun _ h => h, fun j hj => ?_⟩⟩
  · by_cases e : i = j
    · subst e
      rw [set_at hl] at hj
      cases hj
      exact ⟨_, hp, (ob.mv k fun _ h => h).rep np⟩
    · rw [set_ne e] at hj
      obtain ⟨v, h1, h2⟩ := R.val j d hj
      exact ⟨v, h1, h2.mv k⟩
  · by_cases e : i = j
    · subst e
      unfold ownAt at hj
      rw [set_at hl] at hj
      cases hj
    · unfold ownAt at hj
      rw [set_ne e] at hj
      obtain ⟨a, h1, h2, h3⟩ := R.own j q hj
      exact ⟨a, h1, h2, h3.mv k fun _ h => h⟩
  · have g : ∀ n : Nat, isOwn (s.set i (.val o.toD))[n]? = true → isOwn s[n]? = true := fun n hn => by
      by_cases e : i = n
      · subst e; rw [h]; rfl
      · rw [set_ne e] at hn; exact hn
    exact R.dis j m a (g j h1) (g m h2) h3 h4
  · by_cases e : i = j
    · subst e
      rw [h] at hj
      cases hj
    · rw [set_ne e]
      exact ⟨hj, rfl⟩
theorem frz_ok {d : D} (R : Rel K mg W0 s σ H) (op : OpRep K mg W0 s σ H v rv.opd) (e : frz rv s = .ok d s') : Rel K mg W0 s' σ H ∧ Mv s σ H s' σ H ∧ Rep K mg (Wf W0 s' σ) H d v := by
  cases rv with
  | d x =>
    cases e
    exact ⟨R, .refl, op⟩
  | own o =>
    cases e
    exact ⟨R, .refl, op⟩
  | sl i =>
    have op : σ[i]? = some (some v) := op
    have e : (match s[i]? with
      | some (.val d) => Rs.ok d s
      | some (.own o) => .ok o.toD (s.set i (.val o.toD))
      | _ => .stuck) = .ok d s' := e
    split at e
    · rename_i q
      cases e
      obtain ⟨u, h1, h2⟩ := R.val i _ q
      rw [op] at h1
      cases h1
      exact ⟨R, .refl, h2⟩
    · rename_i o q
      cases e
      obtain ⟨R', m⟩ := R.frz q
      obtain ⟨u, h1, h2⟩ := R'.val i o.toD (set_at (lt_of q))
      rw [op] at h1
      cases h1
      exact ⟨R', m, h2⟩
    · cases e
theorem wpG_frz {P : D → Ev → Prop} {E : Xn → Ev → Prop} (h : wpG (GS.frz rv s) P E) : ∃ d s', GS.frz rv s = .ok d s' ∧ P d s' := by
  cases e : GS.frz rv s with
  | ok d s' => rw [e] at h; exact ⟨d, s', rfl, h⟩
  | stuck => rw [e] at h; exact h.elim
  | er x s' =>
    exfalso
    cases rv with
    | d x => cases e
    | own o => cases e
    | sl i =>
      unfold GS.frz at e
      simp only at e
      split at e <;> cases e
/-! ### lists of values -/
inductive OpReps (K : PySem.W.Frag) (mg : Str → Option Value) (W0 : Addr → Prop) (s : Ev) (σ : L2.St) (H : Hp) : List RV → List V → Prop
  | nil : OpReps K mg W0 s σ H [] []
  | cons {rv : RV} {v : V} {rvs : List RV} {vs : List V} (h : OpRep K mg W0 s σ H v rv.opd) (r : OpReps K mg W0 s σ H rvs vs) : OpReps K mg W0 s σ H (rv :: rvs) (v :: vs)
theorem OpReps.mv {rvs : List RV} {vs : List V} (m : Mv s σ H s' σ H') (h : OpReps K mg W0 s σ H rvs vs) : OpReps K mg W0 s' σ H' rvs vs := by
  induction h with
  | nil => exact .nil
  | cons h _ ih => exact .cons (h.mv m) ih
theorem getAll_ok {rvs : List RV} {vs : List V} (R : Rel K mg W0 s σ H) (h : OpReps K mg W0 s σ H rvs vs) : ∀ {ds : List D}, getAll s (rvs.map RV.opd) = some ds → RepBs K mg (Wf W0 s σ) H ds vs := by
  induction h with
  | nil => intro ds e; cases e; exact .nil
  | @cons rv v rvs vs h r ih =>
    intro ds e
    have e : (match rv.opd.get s, getAll s (rvs.map RV.opd) with
      | some d, some ds => some (d :: ds)
      | _, _ => none) = some ds := e
    split at e
    · rename_i d es e1 e2
      cases e
      exact .cons (h.get R e1) (ih e2)
    · cases e
theorem frzL_ok : ∀ {rvs : List RV} {vs : List V} {s : Ev} {ds : List D}, Rel K mg W0 s σ H → OpReps K mg W0 s σ H rvs vs → frzL rvs s = .ok ds s' → Rel K mg W0 s' σ H ∧ Mv s σ H s' σ H ∧ RepA K mg (Wf W0 s' σ) H ds vs
  | [], _, _, _, R, .nil, e => by cases e; exact ⟨R, .refl, .nil⟩
  | rv :: rvs, _, s, ds, R, .cons h r, e => by
    have e : ((GS.frz rv s).bind fun d s => (frzL rvs s).bind fun ds s => .ok (d :: ds) s) = .ok ds s' := e
    cases e1 : GS.frz rv s with
    | er x s1 => rw [e1] at e; cases e
    | stuck => rw [e1] at e; cases e
    | ok d s1 =>
      rw [e1] at e
      have e : ((frzL rvs s1).bind fun ds s => .ok (d :: ds) s) = .ok ds s' := e
      obtain ⟨R1, m1, h1⟩ := frz_ok R h e1
      cases e2 : frzL rvs s1 with
      | er x s1 => rw [e2] at e; cases e
      | stuck => rw [e2] at e; cases e
      | ok es s2 =>
        rw [e2] at e
        cases e
        obtain ⟨R2, m2, h2⟩ := frzL_ok R1 (r.mv m1) e2
        exact ⟨R2, m1.trans m2, .cons (h1.mv m2.kp) h2⟩
theorem wpG_frzL : ∀ {rvs : List RV} {s : Ev} {P : List D → Ev → Prop} {E : Xn → Ev → Prop}, wpG (frzL rvs s) P E → ∃ d s', frzL rvs s = .ok d s' ∧ P d s'
  | [], s, _, _, h => ⟨_, _, rfl, h⟩
  | rv :: rvs, s, P, E, h => by
    have h : wpG ((GS.frz rv s).bind fun d s => (frzL rvs s).bind fun ds s => .ok (d :: ds) s) P E := h
    obtain ⟨d, s1, e1, h1⟩ := wpG_frz (wpG_bind.mp h)
    obtain ⟨ds, s2, e2, h2⟩ := wpG_frzL (wpG_bind.mp h1)
    refine ⟨d :: ds, s2, ?_, h2⟩
    show ((GS.frz rv s).bind fun d s => (frzL rvs s).bind fun ds s => .ok (d :: ds) s) = _
    rw [e1]
    show ((frzL rvs s1).bind fun ds s => Rs.ok (d :: ds) s) = _
    rw [e2]
    rfl
structure PostL (K : PySem.W.Frag) (mg : Str → Option Value) (W0 : Addr → Prop) (s : Ev) (σ : L2.St) (H : Hp) (rvs : List RV) (s' : Ev) (vs : List V) (H' : Hp) : Prop where
  mv : Mv s σ H s' σ H'
  rel : Rel K mg W0 s' σ H'
  ops : OpReps K mg W0 s' σ H' rvs vs
theorem PostX.pre {x : Xn} {c : Value} {d : Option Addr} (m : Mv s σ H s1 σ H1) (P : PostX K mg W0 s1 σ H1 x s' c d H') : PostX K mg W0 s σ H x s' c d H' := ⟨m.trans P.mv, P.rel, P.xn⟩
theorem PostE.pre (m : Mv s σ H s1 σ H1) (P : PostE K mg W0 s1 σ H1 rv s' v H') : PostE K mg W0 s σ H rv s' v H' := by
  refine ⟨m.trans P.mv, ?_⟩
  have r := P.rep
  cases rv with
  | d d => exact r
  | sl i => exact r
  | own o =>
    obtain ⟨p, h1, h2, h3⟩ := r
    exact ⟨p, h1, m.fresh h2, h3⟩
end

/-! ### the evaluator's wishes -/
section
variable (O : Ora) (K : PySem.W.Frag) (mg : Str → Option Value) (Wx : L2.WX)
def tE (e : GS.CE) : TE := fun σ H Q => ∃ W0 s, Rel K mg W0 s σ H ∧ wpG (ev O e s) (fun rv s' => ∀ v H', PostE K mg W0 s σ H rv s' v H' → Q v H') (fun x s' => ∀ c d H', PostX K mg W0 s σ H x s' c d H' → Wx c d σ H')
def tEs (es : CEs) : TA := fun σ H Q => ∃ W0 s, Rel K mg W0 s σ H ∧ wpG (evs O es s) (fun rvs s' => ∀ vs H', PostL K mg W0 s σ H rvs s' vs H' → Q vs H') (fun x s' => ∀ c d H', PostX K mg W0 s σ H x s' c d H' → Wx c d σ H')
def tT (e : GS.CE) : TT := fun σ H Q => ∃ W0 s, Rel K mg W0 s σ H ∧ wpG (evB O e s) (fun b s' => ∀ H', Mv s σ H s' σ H' → Rel K mg W0 s' σ H' → Q b H') (fun x s' => ∀ c d H', PostX K mg W0 s σ H x s' c d H' → Wx c d σ H')
end
section
variable {O : Ora} {K : PySem.W.Frag} {mg : Str → Option Value} {Wx : L2.WX} {W0 : Addr → Prop} {s s' s1 : Ev} {σ : L2.St} {H H' H1 : Hp}
theorem PE.imp {X : Cx} {e : Expr} {t t' : TE} (h : L2.PE X e t) (i : ∀ σ H Q, t' σ H Q → t σ H Q) : L2.PE X e t' := ⟨fun pins s σ H Q I q => h.run pins s σ H Q I (i σ H Q q)⟩
theorem PT.imp {X : Cx} {e : Expr} {t t' : TT} (h : L2.PT X e t) (i : ∀ σ H Q, t' σ H Q → t σ H Q) : L2.PT X e t' := ⟨fun pins s σ H Q I q => h.run pins s σ H Q I (i σ H Q q)⟩
theorem PW.imp {X : Cx} {e : Expr} {t t' : TT} (h : L2.PW X e t) (i : ∀ σ H Q, t' σ H Q → t σ H Q) : L2.PW X e t' := ⟨fun wh pins s σ H Q I q => h.run wh pins s σ H Q I (i σ H Q q)⟩
theorem PA.imp {X : Cx} {e : List Expr} {t t' : TA} (h : L2.PA X e t) (i : ∀ σ H Q, t' σ H Q → t σ H Q) : L2.PA X e t' := ⟨fun pos pins s σ H Q I q => h.run pos pins s σ H Q I (i σ H Q q)⟩
/-- an expression's wish, its exceptions as one wants them -/
theorem tE_of {e : GS.CE} {P : RV → Ev → Prop} {E : Xn → Ev → Prop} {Q : VK} (R : Rel K mg W0 s σ H) (h : wpG (ev O e s) P E) (p : ∀ rv s' v H', PostE K mg W0 s σ H rv s' v H' → P rv s' → Q v H')
    (x : ∀ x s', E x s' → ∀ c d H', PostX K mg W0 s σ H x s' c d H' → Wx c d σ H') : tE O K mg Wx e σ H Q :=
  ⟨W0, s, R, h.mono (fun rv s' hp v H' po => p rv s' v H' po hp) fun y s' he => x y s' he⟩
theorem tEs_of {e : CEs} {P : List RV → Ev → Prop} {E : Xn → Ev → Prop} {Q : List V → Hp → Prop} (R : Rel K mg W0 s σ H) (h : wpG (evs O e s) P E) (p : ∀ rv s' v H', PostL K mg W0 s σ H rv s' v H' → P rv s' → Q v H')
    (x : ∀ x s', E x s' → ∀ c d H', PostX K mg W0 s σ H x s' c d H' → Wx c d σ H') : tEs O K mg Wx e σ H Q :=
  ⟨W0, s, R, h.mono (fun rv s' hp v H' po => p rv s' v H' po hp) fun y s' he => x y s' he⟩
theorem tT_of {e : GS.CE} {P : Bool → Ev → Prop} {E : Xn → Ev → Prop} {Q : Bool → Hp → Prop} (R : Rel K mg W0 s σ H) (h : wpG (evB O e s) P E) (p : ∀ b s' H', Mv s σ H s' σ H' → Rel K mg W0 s' σ H' → P b s' → Q b H')
    (x : ∀ x s', E x s' → ∀ c d H', PostX K mg W0 s σ H x s' c d H' → Wx c d σ H') : tT O K mg Wx e σ H Q :=
  ⟨W0, s, R, h.mono (fun rv s' hp H' m R' => p rv s' H' m R' hp) fun y s' he => x y s' he⟩
/-- the words of an exception behind a step -/
theorem xpre {E : Xn → Ev → Prop} (m : Mv s σ H s1 σ H1) (h : ∀ x s', E x s' → ∀ c d H', PostX K mg W0 s σ H x s' c d H' → Wx c d σ H') : ∀ x s', E x s' → ∀ c d H', PostX K mg W0 s1 σ H1 x s' c d H' → Wx c d σ H' :=
  fun x s' e c d H' P => h x s' e c d H' (P.pre m)
abbrev EW (K : PySem.W.Frag) (mg : Str → Option Value) (Wx : L2.WX) (W0 : Addr → Prop) (s : Ev) (σ : L2.St) (H : Hp) : Xn → Ev → Prop := fun x s' => ∀ c d H', PostX K mg W0 s σ H x s' c d H' → Wx c d σ H'
theorem EW.id : ∀ x s', EW K mg Wx W0 s σ H x s' → ∀ c d H', PostX K mg W0 s σ H x s' c d H' → Wx c d σ H' := fun _ _ h => h

/-! ### constructs -/
variable {a b c : GS.CE} {es fs : CEs} {Q : VK}
theorem cs_var {i : Nat} (h : tE O K mg Wx (.var i) σ H Q) : tVar i σ H Q := by
  obtain ⟨W0, s, R, h⟩ := h
  have h : wpG (match s[i]? with
    | some (.val d) => Rs.ok (RV.d d) s
    | some (.own _) => .ok (.sl i) s
    | some (.io _) => .ok (.sl i) s
    | _ => .stuck) _ _ := h
  split at h
  · rename_i d e
    obtain ⟨v, h1, h2⟩ := R.val i d e
    exact ⟨v, h1, h v H ⟨.refl, R, h2⟩⟩
  · rename_i o e
    obtain ⟨p, h1, _⟩ := R.own i o (own_at e)
    exact ⟨_, h1, h _ H ⟨.refl, R, h1⟩⟩
  · rename_i o e
    obtain ⟨p, h1, _⟩ := R.own i o (io_at e)
    exact ⟨_, h1, h _ H ⟨.refl, R, h1⟩⟩
  · exact h.elim
theorem cs_con {d : D} {v : V} (r : ∀ W H, Rep K mg W H d v) (h : tE O K mg Wx (.con d) σ H Q) : tC v σ H Q := by
  obtain ⟨W0, s, R, h⟩ := h
  exact h v H ⟨.refl, R, r _ _⟩
theorem cs_glob {x : Str} {v : V} (r : ∀ d, O.G x = some d → ∀ W H, Rep K mg W H d v) (h : tE O K mg Wx (.glob x) σ H Q) : tC v σ H Q := by
  obtain ⟨W0, s, R, h⟩ := h
  obtain ⟨rv, e, h⟩ := wpG_opt h
  obtain ⟨d, e', rfl⟩ := Option.map_eq_some_iff.mp e
  exact h v H ⟨.refl, R, r d e' _ _⟩
/-- two operands, then a step -/
theorem two {P : RV → Ev → Prop} {E : Xn → Ev → Prop} {f : RV → RV → Ev → Rs RV} {r : V → V → Hp → VK → Prop} (R : Rel K mg W0 s σ H) (h : wpG ((ev O a s).bind fun x s => (ev O b s).bind fun y s => f x y s) P E)
    (x : ∀ x s', E x s' → ∀ c d H', PostX K mg W0 s σ H x s' c d H' → Wx c d σ H')
    (st : ∀ xv yv s2 v w H2, Mv s σ H s2 σ H2 → Rel K mg W0 s2 σ H2 → OpRep K mg W0 s2 σ H2 v xv.opd → OpRep K mg W0 s2 σ H2 w yv.opd → wpG (f xv yv s2) P E → r v w H2 Q) :
    tE O K mg Wx a σ H fun v H1 => tE O K mg Wx b σ H1 fun w H2 => r v w H2 Q :=
  tE_of R (wpG_bind.mp h) (fun xv s1 v H1 P1 h1 => tE_of P1.rel (wpG_bind.mp h1) (fun yv s2 w H2 P2 h2 => st xv yv s2 v w H2 (P1.mv.trans P2.mv) P2.rel (P1.op.mv P2.mv) P2.op h2) (xpre P1.mv x)) x
theorem wf_trk (R : Rel K mg W0 s σ H) : ∀ p, Wf W0 s σ p → H p ≠ none := fun _ h => R.wTrk h
theorem cs_bin {o : Operator} (h : tE O K mg Wx (.bin o a b) σ H Q) : tOp (rBin K mg o) (tE O K mg Wx a) (tE O K mg Wx b) σ H Q := by
  obtain ⟨W0, s, R, h⟩ := h
  refine two R h EW.id fun xv yv s2 v w H2 m R2 ov ow h => ?_
  split at h
  · rename_i d1 d2 e1 e2
    obtain ⟨rv, e, h⟩ := wpG_opt h
    exact ⟨_, d1, d2, rv, wf_trk R2, ov.get R2 e1, ow.get R2 e2, e, fun v' H' P => h v' H' (P.post R2 m)⟩
  · exact h.elim
theorem cs_cmp {o : CmpOp} (h : tE O K mg Wx (.cmp o a b) σ H Q) : tOp (rCmp K mg o) (tE O K mg Wx a) (tE O K mg Wx b) σ H Q := by
  obtain ⟨W0, s, R, h⟩ := h
  refine two R h EW.id fun xv yv s2 v w H2 m R2 ov ow h => ?_
  split at h
  · rename_i d1 d2 e1 e2
    obtain ⟨rv, e, h⟩ := wpG_opt h
    obtain ⟨c, e', rfl⟩ := Option.map_eq_some_iff.mp e
    exact ⟨_, d1, d2, c, ov.get R2 e1, ow.get R2 e2, e', h _ _ ⟨m, R2, .bl _⟩⟩
  · exact h.elim
theorem cs_idx (h : tE O K mg Wx (.idx a b) σ H Q) : tOp (rIdx K mg) (tE O K mg Wx a) (tE O K mg Wx b) σ H Q := by
  obtain ⟨W0, s, R, h⟩ := h
  refine two R h EW.id fun xv yv s2 v w H2 m R2 ov ow h => ?_
  split at h
  · rename_i d1 d2 e1 e2
    obtain ⟨rv, e, h⟩ := wpG_opt h
    obtain ⟨c, e', rfl⟩ := Option.map_eq_some_iff.mp e
    exact ⟨_, d1, d2, c, ov.get R2 e1, ow.get R2 e2, e', fun v' r => h _ _ ⟨m, R2, r⟩⟩
  · exact h.elim
theorem cs_chain {o p : CmpOp} (h : tE O K mg Wx (.chain o p a b c) σ H Q) : tChain (rCmp K mg o) (rCmp K mg p) (tE O K mg Wx a) (tE O K mg Wx b) (tE O K mg Wx c) σ H Q := by
  obtain ⟨W0, s, R, h⟩ := h
  refine tE_of R (wpG_bind.mp h) (fun xv s1 v H1 P1 h1 => tE_of P1.rel (wpG_bind.mp h1) (fun yv s2 w H2 P2 h2 => ?_) (xpre P1.mv EW.id)) EW.id
  split at h2
  · rename_i d1 d2 e1 e2
    split at h2
    · rename_i e3
      refine ⟨_, d1, d2, true, (P1.op.mv P2.mv).get P2.rel e1, P2.op.get P2.rel e2, e3, true, rfl, ?_⟩
      rw [if_pos rfl]
      have m := P1.mv.trans P2.mv
      refine tE_of P2.rel (wpG_bind.mp h2) (fun zv s3 u H3 P3 h3 => ?_) (xpre m EW.id)
      split at h3
      · rename_i d3 d4 e4 e5
        obtain ⟨rv, e, h⟩ := wpG_opt h3
        obtain ⟨c, e', rfl⟩ := Option.map_eq_some_iff.mp e
        exact ⟨_, d3, d4, c, (P2.op.mv P3.mv).get P3.rel e4, P3.op.get P3.rel e5, e', h _ _ ⟨m.trans P3.mv, P3.rel, .bl _⟩⟩
      · exact h3.elim
    · rename_i e3
      refine ⟨_, d1, d2, false, (P1.op.mv P2.mv).get P2.rel e1, P2.op.get P2.rel e2, e3, false, rfl, ?_⟩
      rw [if_neg (by decide)]
      exact h2 _ _ ⟨P1.mv.trans P2.mv, P2.rel, .bl _⟩
    · exact h2.elim
  · exact h2.elim
/-- a value's truth, then a step -/
theorem tru_of {rv : RV} {v : V} {k : Bool} (R : Rel K mg W0 s σ H) (op : OpRep K mg W0 s σ H v rv.opd) (e : (rv.opd.get s).bind truD = some k) : TruV K v H k := by
  obtain ⟨d, e1, e2⟩ := Option.bind_eq_some_iff.mp e
  exact tru_V (op.get R e1) e2
def tNeg (t : TE) : TE := fun σ H Q => t σ H fun x H1 => ∃ i, x = .int i ∧ Q (.int (-i)) H1
theorem cs_neg (h : tE O K mg Wx (.neg a) σ H Q) : tNeg (tE O K mg Wx a) σ H Q := by
  obtain ⟨W0, s, R, h⟩ := h
  refine tE_of R (wpG_bind.mp h) (fun xv s1 v H1 P1 h1 => ?_) EW.id
  split at h1
  · rename_i i
    have r := P1.rep
    have e : v = .int i := by cases r.2; rfl
    exact ⟨i, e, h1 _ _ ⟨P1.mv, r.1, .int _⟩⟩
  · exact h1.elim
theorem cs_not (h : tE O K mg Wx (.not a) σ H Q) : tNotT K (tE O K mg Wx a) σ H Q := by
  obtain ⟨W0, s, R, h⟩ := h
  refine tE_of R (wpG_bind.mp h) (fun xv s1 v H1 P1 h1 => ?_) EW.id
  obtain ⟨rv, e, h⟩ := wpG_opt h1
  obtain ⟨k, e', rfl⟩ := Option.map_eq_some_iff.mp e
  exact ⟨k, tru_of P1.rel P1.op e', h _ _ ⟨P1.mv, P1.rel, .bl _⟩⟩
theorem cs_and (h : tE O K mg Wx (.and a b) σ H Q) : tAndT K (tE O K mg Wx a) (tE O K mg Wx b) σ H Q := by
  obtain ⟨W0, s, R, h⟩ := h
  refine tE_of R (wpG_bind.mp h) (fun xv s1 v H1 P1 h1 => ?_) EW.id
  split at h1
  · rename_i e
    refine ⟨true, tru_of P1.rel P1.op e, ?_⟩
    rw [if_pos rfl]
    exact tE_of P1.rel h1 (fun yv s2 w H2 P2 h2 => h2 _ _ (P2.pre P1.mv)) (xpre P1.mv EW.id)
  · rename_i e
    refine ⟨false, tru_of P1.rel P1.op e, ?_⟩
    rw [if_neg (by decide)]
    exact h1 _ _ P1
  · exact h1.elim
theorem cs_or (h : tE O K mg Wx (.or a b) σ H Q) : tOrT K (tE O K mg Wx a) (tE O K mg Wx b) σ H Q := by
  obtain ⟨W0, s, R, h⟩ := h
  refine tE_of R (wpG_bind.mp h) (fun xv s1 v H1 P1 h1 => ?_) EW.id
  split at h1
  · rename_i e
    refine ⟨true, tru_of P1.rel P1.op e, ?_⟩
    rw [if_pos rfl]
    exact h1 _ _ P1
  · rename_i e
    refine ⟨false, tru_of P1.rel P1.op e, ?_⟩
    rw [if_neg (by decide)]
    exact tE_of P1.rel h1 (fun yv s2 w H2 P2 h2 => h2 _ _ (P2.pre P1.mv)) (xpre P1.mv EW.id)
  · exact h1.elim
theorem cs_ite (h : tE O K mg Wx (.ite c a b) σ H Q) : tIf (tT O K mg Wx c) (tE O K mg Wx a) (tE O K mg Wx b) σ H Q := by
  obtain ⟨W0, s, R, h⟩ := h
  have h : wpG ((ev O c s).bind fun x s => match (x.opd.get s).bind truD with
    | some true => ev O a s
    | some false => ev O b s
    | none => .stuck) _ _ := h
  refine ⟨W0, s, R, ?_⟩
  unfold evB
  refine wpG_bind.mpr ((wpG_bind.mp h).mono (fun xv s1 h1 => ?_) fun _ _ h => h)
  split at h1
  · rename_i e
    rw [e]
    intro H' m R'
    rw [if_pos rfl]
    exact tE_of R' h1 (fun yv s2 w H2 P2 h2 => h2 _ _ (P2.pre m)) (xpre m EW.id)
  · rename_i e
    rw [e]
    intro H' m R'
    rw [if_neg (by decide)]
    exact tE_of R' h1 (fun yv s2 w H2 P2 h2 => h2 _ _ (P2.pre m)) (xpre m EW.id)
  · exact h1.elim
/-! ### lists of expressions -/
theorem cs_nil {Q : List V → Hp → Prop} (h : tEs O K mg Wx .nil σ H Q) : tNil σ H Q := by
  obtain ⟨W0, s, R, h⟩ := h
  exact h [] H ⟨.refl, R, .nil⟩
theorem cs_cons {Q : List V → Hp → Prop} (h : tEs O K mg Wx (.cons a es) σ H Q) : tCons (tE O K mg Wx a) (tEs O K mg Wx es) σ H Q := by
  obtain ⟨W0, s, R, h⟩ := h
  have h : wpG ((ev O a s).bind fun x s => (evs O es s).bind fun vs s => .ok (x :: vs) s) _ _ := h
  exact tE_of R (wpG_bind.mp h) (fun xv s1 v H1 P1 h1 => tEs_of P1.rel (wpG_bind.mp h1) (fun yv s2 w H2 P2 h2 => h2 _ _ ⟨P1.mv.trans P2.mv, P2.rel, .cons (P1.op.mv P2.mv) P2.ops⟩) (xpre P1.mv EW.id)) EW.id
theorem cs_tup (h : tE O K mg Wx (.tup es) σ H Q) : tTup (tEs O K mg Wx es) σ H Q := by
  obtain ⟨W0, s, R, h⟩ := h
  have h : wpG ((evs O es s).bind fun vs s => (frzL vs s).bind fun ds s => if ds.length ≤ sizeLine then Rs.ok (RV.d (.tuple ds)) s else .stuck) _ _ := h
  refine tEs_of R (wpG_bind.mp h) (fun rvs s1 vs H1 P1 h1 => ?_) EW.id
  obtain ⟨ds, s2, e, h2⟩ := wpG_frzL (wpG_bind.mp h1)
  obtain ⟨R2, m2, r2⟩ := frzL_ok P1.rel P1.ops e
  split at h2
  · rename_i hl
    refine ⟨r2.len ▸ hl, fun p hp => h2 _ _ ?_⟩
    have m := P1.mv.trans m2
    exact (PostV.newT hp (fun z => R2.wTrk z hp) r2 hl).post R2 m
  · exact h2.elim
theorem cs_lst (h : tE O K mg Wx (.lst es) σ H Q) : tLst (tEs O K mg Wx es) σ H Q := by
  obtain ⟨W0, s, R, h⟩ := h
  have h : wpG ((evs O es s).bind fun vs s => (frzL vs s).bind fun ds s => if ds.length ≤ sizeLine then Rs.ok (RV.own (.lst ds)) s else .stuck) _ _ := h
  refine tEs_of R (wpG_bind.mp h) (fun rvs s1 vs H1 P1 h1 => ?_) EW.id
  obtain ⟨ds, s2, e, h2⟩ := wpG_frzL (wpG_bind.mp h1)
  obtain ⟨R2, m2, r2⟩ := frzL_ok P1.rel P1.ops e
  split at h2
  · rename_i hl
    refine ⟨r2.len ▸ hl, fun p hp => h2 _ _ ?_⟩
    have m := P1.mv.trans m2
    exact (PostV.newL hp r2 hl).post R2 m
  · exact h2.elim
end
end GS

/-! GS9: calls of built-ins, methods, slices, dict displays. -/
namespace GS
open PySem PySem.Spec PyProof.Rows L2

section
variable {K : PySem.W.Frag} {mg : Str → Option Value} {W0 W : Addr → Prop} {s s' s1 : Ev} {σ : L2.St} {H H' H1 : Hp} {i : Nat} {p : Addr} {o o' : Ob}
theorem RepA.bs : ∀ {ds : List D} {vs : List V}, RepA K mg W H ds vs → RepBs K mg W H ds vs
  | _, _, .nil => .nil
  | _, _, .cons h r => .cons (.of h) (RepA.bs r)
/-! ### an owned object changes -/
theorem setOb_len : (setOb s i o).length = s.length := by
  unfold setOb
  split <;> rw [List.length_set]
theorem setOb_ne {j : Nat} (h : i ≠ j) : (setOb s i o)[j]? = s[j]? := by
  unfold setOb
  split <;> exact set_ne h
theorem setOb_at (h : ownAt s i = some o') : ownAt (setOb s i o) i = some o ∧ isOwn (setOb s i o)[i]? = true ∧ isIo (setOb s i o)[i]? = isIo s[i]? ∧ isOwn s[i]? = true := by
  unfold ownAt at h
  split at h
  · rename_i q
    have hl := lt_of q
    unfold setOb
    rw [q]
    refine ⟨?_, ?_, ?_, rfl⟩
    · unfold ownAt
      rw [set_at hl]
    · rw [set_at hl]; rfl
    · rw [set_at hl]; rfl
  · rename_i q
    have hl := lt_of q
    unfold setOb
    rw [q]
    refine ⟨?_, ?_, ?_, rfl⟩
    · unfold ownAt
      rw [set_at hl]
    · rw [set_at hl]; rfl
    · rw [set_at hl]; rfl
  · cases h
theorem setOb_own (h : ownAt s i = some o') (j : Nat) : isOwn (setOb s i o)[j]? = isOwn s[j]? := by
  by_cases e : i = j
  · subst e
    rw [(setOb_at (o := o) h).2.1, (setOb_at (o := o) h).2.2.2]
  · rw [setOb_ne e]
theorem Rel.chg {u : HO} (R : Rel K mg W0 s σ H) (h : ownAt s i = some o') (hp : σ[i]? = some (some (.ref p))) (g : ∀ W', Keep (Wf W0 s σ) H W' (upd H p u) → ObAt K mg W' (upd H p u) p o) :
    Rel K mg W0 (setOb s i o) σ (upd H p u) ∧ Mv s σ H (setOb s i o) σ (upd H p u) := by
  have hi := (setOb_at (o := o) h).2.2.2
  have hop : OwnP s σ p := ⟨i, hi, hp⟩
  have own : ∀ a, OwnP (setOb s i o) σ a → OwnP s σ a := fun a ⟨j, h1, h2⟩ => ⟨j, by rw [setOb_own h] at h1; exact h1, h2⟩
  have own' : ∀ a, OwnP s σ a → OwnP (setOb s i o) σ a := fun a ⟨j, h1, h2⟩ => ⟨j, by rw [setOb_own h]; exact h1, h2⟩
  have kp : ∀ a u', H a = some u' → ¬ OwnP s σ a → upd H p u a = some u' := fun a u' e n => by
    rw [upd_ne (fun z => n (by rw [z]; exact hop))]
    exact e
  have k : Keep (Wf W0 s σ) H (Wf W0 (setOb s i o) σ) (upd H p u) := ⟨fun a u' e n => kp a u' e fun z => n (.inr z), fun a z => .inl (z.imp id (own a))⟩
  obtain ⟨q, hq, n0, ob0⟩ := R.own i o' h
  rw [hp] at hq
  cases hq
  refine ⟨⟨by rw [setOb_len]; exact R.len, fun a ha => ?_, fun j d hj => ?_, fun j o2 hj => ?_, fun j m a h1 h2 => ?_⟩, ⟨kp, fun a z => .inl (own a z), fun a ha => ?_, fun j hj => ?_⟩⟩
  · by_cases e : a = p
    · subst e; rw [upd_same]; exact fun z => by cases z
    · rw [upd_ne e]; exact R.out a ha
  · by_cases e : i = j
    · subst e
      have := (setOb_at (o := o) h).2.1
      rw [hj] at this
      cases this
    · rw [setOb_ne e] at hj
      obtain ⟨v, h1, h2⟩ := R.val j d hj
      exact ⟨v, h1, h2.mv k⟩
  · by_cases e : i = j
    · subst e
      rw [(setOb_at h).1] at hj
      cases hj
      exact ⟨p, hp, n0, g _ k⟩
    · have e2 : ownAt s j = some o2 := by
        unfold ownAt at hj ⊢
        rw [setOb_ne e] at hj
        exact hj
      obtain ⟨a, h1, h2, h3⟩ := R.own j o2 e2
      have ne : a ≠ p := fun z => e (R.dis i j p hi (own_is e2) hp (z ▸ h1))
      exact ⟨a, h1, h2, h3.mv k fun u' e' => by rw [upd_ne ne]; exact e'⟩
  · rw [setOb_own h] at h1 h2
    exact R.dis j m a h1 h2
  · by_cases e : a = p
    · subst e; rw [upd_same]; exact fun z => by cases z
    · rw [upd_ne e]; exact ha
  · by_cases e : i = j
    · subst e
      exact ⟨(setOb_at h).2.2.1.trans hj, rfl⟩
    · rw [setOb_ne e]
      exact ⟨hj, rfl⟩
end
section
variable {O : Ora} {K : PySem.W.Frag} {mg : Str → Option Value} {Wx : L2.WX} {W0 : Addr → Prop} {s s' s1 : Ev} {σ : L2.St} {H H' H1 : Hp}
variable {a b c : GS.CE} {es fs : CEs} {Q : VK}
theorem cs_bi {f : String} (h : tE O K mg Wx (.bi f es) σ H Q) : tCB (rBi K mg f) (tEs O K mg Wx es) σ H Q := by
  obtain ⟨W0, s, R, h⟩ := h
  refine tEs_of R (wpG_bind.mp h) (fun rvs s1 vs H1 P1 h1 => ?_) EW.id
  obtain ⟨rv, e, h⟩ := wpG_opt h1
  obtain ⟨ds, e1, e2⟩ := some_bind e
  exact ⟨_, ds, rv, wf_trk P1.rel, getAll_ok P1.rel P1.ops e1, e2, fun v H' P => h v H' (P.post P1.rel P1.mv)⟩
theorem cs_isi {t : String} (h : tE O K mg Wx (.isi a t) σ H Q) : tCB (rIsi' K mg t) (tCons (tE O K mg Wx a) (tCons (tC (.ty t)) tNil)) σ H Q := by
  obtain ⟨W0, s, R, h⟩ := h
  refine tE_of R (wpG_bind.mp h) (fun xv s1 v H1 P1 h1 => ?_) EW.id
  obtain ⟨rv, e, h⟩ := wpG_opt h1
  obtain ⟨c, e', rfl⟩ := some_map e
  obtain ⟨d, e1, e2⟩ := some_bind e'
  exact ⟨_, v, d, c, rfl, P1.op.get P1.rel e1, e2, h _ _ ⟨P1.mv, P1.rel, .bl _⟩⟩
/-! ### slices -/
def tO (O : Ora) (K : PySem.W.Frag) (mg : Str → Option Value) (Wx : L2.WX) (l : CEs) : TO := fun σ H Q => ∃ W0 s, Rel K mg W0 s σ H ∧ wpG (evs O l s) (fun rvs s' => ∃ lo, (getAll s' (rvs.map RV.opd)).bind partD = some lo ∧ ∀ H', Mv s σ H s' σ H' → Rel K mg W0 s' σ H' → Q lo H') (EW K mg Wx W0 s σ H)
theorem PO.imp {X : Cx} {e : Option Expr} {t t' : TO} (h : L2.PO X e t) (i : ∀ σ H Q, t' σ H Q → t σ H Q) : L2.PO X e t' := ⟨fun pins s σ H Q I q => h.run pins s σ H Q I (i σ H Q q)⟩
theorem cs_noPart {Q : Option Int → Hp → Prop} (h : tO O K mg Wx .nil σ H Q) : tNoPart σ H Q := by
  obtain ⟨W0, s, R, lo, e, h⟩ := h
  have e : some none = some lo := e
  cases e
  exact h H .refl R
theorem cs_part {Q : Option Int → Hp → Prop} (h : tO O K mg Wx (.cons a .nil) σ H Q) : tPart (tE O K mg Wx a) σ H Q := by
  obtain ⟨W0, s, R, h⟩ := h
  have h : wpG ((ev O a s).bind fun x s => Rs.ok [x] s) _ _ := h
  refine tE_of R (wpG_bind.mp h) (fun xv s1 v H1 P1 h1 => ?_) EW.id
  obtain ⟨lo, e, q⟩ := h1
  obtain ⟨ds, e1, e2⟩ := some_bind e
  obtain ⟨w, e3, rd⟩ := (getAll_ok P1.rel (.cons P1.op .nil) e1 : RepBs K mg _ _ ds [v]) |> fun (r : RepBs K mg _ _ ds [v]) => (show ∃ d, ds = [d] ∧ RepB K mg (Wf W0 s1 σ) H1 d v by
    cases r with
    | cons h r => cases r; exact ⟨_, rfl, h⟩)
  subst e3
  unfold partD at e2
  split at e2
  · rename_i z; cases z
  · rename_i i z
    cases z
    cases e2
    cases rd.int
    exact ⟨i, rfl, q _ P1.mv P1.rel⟩
  · cases e2
theorem cs_slc {l h' : CEs} (h : tE O K mg Wx (.slc a l h') σ H Q) : tSl (rSlc K mg) (tE O K mg Wx a) (tO O K mg Wx l) (tO O K mg Wx h') σ H Q := by
  obtain ⟨W0, s, R, h⟩ := h
  refine tE_of R (wpG_bind.mp h) (fun xv s1 v H1 P1 h1 => ?_) EW.id
  refine ⟨W0, s1, P1.rel, (wpG_bind.mp h1).mono (fun rvs s2 h2 => ?_) fun x s' e => xpre P1.mv EW.id x s' e⟩
  split at h2
  · rename_i lo e1
    refine ⟨lo, e1, fun H2 m2 R2 => ?_⟩
    refine ⟨W0, s2, R2, (wpG_bind.mp h2).mono (fun rvs s3 h3 => ?_) fun x s' e => xpre (P1.mv.trans m2) EW.id x s' e⟩
    split at h3
    · rename_i d hi e2 e3
      obtain ⟨rv, e, h⟩ := wpG_opt h3
      refine ⟨hi, e3, fun H3 m3 R3 => ?_⟩
      exact ⟨_, d, rv, wf_trk R3, ((P1.op.mv m2).mv m3).get R3 e2, e, fun v' H' P => h v' H' (P.post R3 ((P1.mv.trans m2).trans m3))⟩
    · exact h3.elim
  · exact h2.elim
/-! ### methods -/
theorem ty_mt {W : Addr → Prop} {m : String} {x : V} {d : D} (r : RepB K mg W H d x) (e : mtOf m d = true) : tyV K (mtT m) x H := by
  cases d with
  | str z =>
    obtain ⟨rfl, _, _⟩ := r.str
    have ne : (m != "get") = true := e
    show mtT m = "str"
    unfold mtT
    rw [if_neg (by simpa using ne)]
  | dict kvs =>
    obtain ⟨eq, nf⟩ := Bool.and_eq_true_iff.mp (show (m == "get" && !isFnB kvs) = true from e)
    obtain ⟨a, kws, rfl, at', _⟩ := r.dic (by simpa using nf)
    refine .inr (.inr (.inl ⟨?_, .inl ⟨kws, at'⟩⟩))
    unfold mtT
    rw [if_pos eq]
  | _ => cases e
theorem cs_meth {m : String} (h : tE O K mg Wx (.meth m a es) σ H Q) : tBM K (mtT m) (rMt K mg m) (tE O K mg Wx a) (tEs O K mg Wx es) σ H Q := by
  obtain ⟨W0, s, R, h⟩ := h
  refine tE_of R (wpG_bind.mp h) (fun xv s1 v H1 P1 h1 => ?_) EW.id
  split at h1
  · exact h1.elim
  · rename_i ht
    have ht : (xv.opd.get s1).map (mtOf m) = some true := by simpa using ht
    obtain ⟨d0, e0, t0⟩ := some_map ht
    refine ⟨ty_mt (P1.op.get P1.rel e0) t0, tEs_of P1.rel (wpG_bind.mp h1) (fun rvs s2 vs H2 P2 h2 => ?_) (xpre P1.mv EW.id)⟩
    have op := P1.op.mv P2.mv
    have m2 := P1.mv.trans P2.mv
    by_cases hm : (m == "get") = true
    · rw [if_pos hm] at h2
      obtain ⟨ds, s3, e, h3⟩ := wpG_frzL (wpG_bind.mp h2)
      obtain ⟨R3, m3, r3⟩ := frzL_ok P2.rel P2.ops e
      split at h3
      · rename_i d e1
        obtain ⟨rv, e2, h4⟩ := wpG_opt h3
        exact ⟨_, d, ds, rv, (op.mv m3).get R3 e1, r3.bs, fun _ => r3, e2, fun v' H' P => h4 v' H' (P.post R3 (m2.trans m3))⟩
      · exact h3.elim
    · rw [if_neg hm] at h2
      obtain ⟨ds, e, h3⟩ := wpG_opt (wpG_bind.mp h2)
      split at h3
      · rename_i d e1
        obtain ⟨rv, e2, h4⟩ := wpG_opt h3
        exact ⟨_, d, ds, rv, op.get P2.rel e1, getAll_ok P2.rel P2.ops e, fun z => absurd (by rw [z]; rfl) hm, e2, fun v' H' P => h4 v' H' (P.post P2.rel m2)⟩
      · exact h3.elim
/-! ### methods that change a list -/
def rMu (K : PySem.W.Frag) (mg : Str → Option Value) (m : String) : V → List V → Hp → VK → Prop := fun x vs H Q => ∃ (W : Addr → Prop) (p : Addr) (xs : List D) (ws : List V) (ds : List D) (d : D) (o' : Ob), x = .ref p ∧ H p = some (.lst ws) ∧ RepA K mg W H xs ws ∧ xs.length ≤ sizeLine ∧ RepA K mg W H ds vs ∧ mutD m (.lst xs) ds = some (d, o') ∧
  ∀ v u, Rep K mg W H d v → (∀ W' H', Keep W H W' H' → H' p = some u → ObAt K mg W' H' p o') → Q v (upd H p u)
theorem get_last {xs : List D} {ws : List V} {W : Addr → Prop} {d : D} (r : RepA K mg W H xs ws) (h : xs[xs.length - 1]? = some d) : ∃ v, ws[ws.length - 1]? = some v ∧ Rep K mg W H d v := by
  rw [← r.len]
  exact r.get h
theorem RepA.erase : ∀ {W : Addr → Prop} {xs : List D} {ws : List V} (k : Nat), RepA K mg W H xs ws → RepA K mg W H (xs.eraseIdx k) (ws.eraseIdx k)
  | _, _, _, _, .nil => .nil
  | _, _, _, 0, .cons _ r => r
  | _, _, _, k + 1, .cons h r => .cons h (RepA.erase k r)
theorem mu_any {X : Cx} (m : String) : MtR X ("list." ++ m) (rMu X.K X.mg m) := by
  intro pins s σ H x vs v us Q I rx r h
  obtain ⟨W, p, xs, ws, ds, d, o', rfl, hp, rx', hl, rd, e, q⟩ := h
  unfold mutD at e
  split at e
  · rename_i ys y eo
    cases eo
    split at e
    · rename_i hz
      cases e
      cases rd with
      | cons r1 rd =>
        cases rd
        refine mt_append pins s σ H _ _ v us Q I rx r ⟨p, ws, _, rfl, rfl, hp, by rw [← rx'.len]; exact hz, q _ _ .non fun W' H' k e => .lst e ((rx'.append (.cons r1 .nil)).mv k) ?_⟩
        rw [List.length_append, List.length_singleton]
        exact hz
    · cases e
  · rename_i ys eo
    cases eo
    obtain ⟨y, e1, e2⟩ := some_map e
    cases e2
    cases rd
    obtain ⟨w, e3, r3⟩ := get_last rx' e1
    refine mt_pop pins s σ H _ _ v us Q I rx r ⟨p, ws, w, rfl, rfl, hp, e3, q _ _ r3 fun W' H' k e => .lst e (rx'.dropLast.mv k) ?_⟩
    rw [List.length_dropLast]
    omega
  · rename_i ys n eo
    cases eo
    split at e
    · rename_i hb
      simp only [Bool.and_eq_true, decide_eq_true_eq] at hb
      obtain ⟨k, e1, e2⟩ := some_bind e
      obtain ⟨y, e3, e4⟩ := some_map e2
      cases e4
      cases rd with
      | cons r1 rd =>
        cases rd
        cases r1
        obtain ⟨w, e5, r5⟩ := rx'.get e3
        refine mt_popAt pins s σ H _ _ v us Q I rx r ⟨p, ws, n, k, w, rfl, rfl, hp, hb.1, hb.2, by rw [← rx'.len]; exact e1, e5, q _ _ r5 fun W' H' kk e => .lst e ((RepA.erase k rx').mv kk) ?_⟩
        exact Nat.le_trans (List.length_eraseIdx_le ..) hl
    · cases e
  · rename_i eo
    cases eo
  · cases e
theorem isLst_of {i : Nat} (h : (!isLst (ownAt s i)) = true → False) : ∃ xs, ownAt s i = some (.lst xs) := by
  cases e : ownAt s i with
  | none => rw [e] at h; exact (h rfl).elim
  | some o =>
    cases o with
    | lst xs => exact ⟨xs, rfl⟩
    | dic kvs => rw [e] at h; exact (h rfl).elim
theorem cs_mut {m : String} {i : Nat} (h : tE O K mg Wx (.mut m i es) σ H Q) : tBM K "list" (rMu K mg m) (tVar i) (tEs O K mg Wx es) σ H Q := by
  obtain ⟨W0, s, R, h⟩ := h
  have h : wpG (if !isLst (ownAt s i) then Rs.stuck else (evs O es s).bind fun os s => (frzL os s).bind fun ds s => match ownAt s i with
    | some (.lst xs) => match mutD m (.lst xs) ds with
      | some (d, o') => Rs.ok (RV.d d) (setOb s i o')
      | none => .stuck
    | _ => .stuck) _ _ := h
  split at h
  · exact h.elim
  · rename_i hi
    obtain ⟨xs0, e0⟩ := isLst_of hi
    obtain ⟨p, hp, n0, ob⟩ := R.own i _ e0
    refine ⟨_, hp, ?_, ?_⟩
    · cases ob with
      | lst h1 _ _ => exact .inl ⟨rfl, _, .of h1⟩
    · refine tEs_of R (wpG_bind.mp h) (fun rvs s1 vs H1 P1 h1 => ?_) EW.id
      obtain ⟨ds, s2, e, h2⟩ := wpG_frzL (wpG_bind.mp h1)
      obtain ⟨R2, m2, r2⟩ := frzL_ok P1.rel P1.ops e
      split at h2
      · rename_i xs e1
        split at h2
        · rename_i d o' e2
          obtain ⟨p', hp', n1, ob1⟩ := R2.own i _ e1
          rw [hp] at hp'
          cases hp'
          cases ob1 with
          | lst g1 g2 g3 =>
            refine ⟨_, p, _, _, ds, d, o', rfl, g1, g2, g3, r2, e2, fun v u rv g => ?_⟩
            obtain ⟨R3, m3⟩ := R2.chg (u := u) (o := o') e1 hp fun W' k => g W' _ k upd_same
            have m : Mv s σ H s2 σ H1 := P1.mv.trans m2
            exact h2 v _ ⟨m.trans m3, R3, rv.mv m3.kp⟩
        · exact h2.elim
      · exact h2.elim
theorem cs_ext {i : Nat} (h : tE O K mg Wx (.ext i a) σ H Q) : tBM K "list" rExtend (tVar i) (tCons (tE O K mg Wx a) tNil) σ H Q := by
  obtain ⟨W0, s, R, h⟩ := h
  have h : wpG (if !isLst (ownAt s i) then Rs.stuck else (ev O a s).bind fun x s => match x, ownAt s i with
    | .own (.lst ys), some (.lst xs) => if xs.length + ys.length ≤ sizeLine then Rs.ok (RV.d .none) (setOb s i (.lst (xs ++ ys))) else .stuck
    | _, _ => .stuck) _ _ := h
  split at h
  · exact h.elim
  · rename_i hi
    obtain ⟨xs0, e0⟩ := isLst_of hi
    obtain ⟨p, hp, n0, ob⟩ := R.own i _ e0
    refine ⟨_, hp, ?_, ?_⟩
    · cases ob with
      | lst h1 _ _ => exact .inl ⟨rfl, _, .of h1⟩
    · refine tE_of R (wpG_bind.mp h) (fun xv s1 v H1 P1 h1 => ?_) EW.id
      split at h1
      · rename_i ys xs e1
        split at h1
        · rename_i fit
          obtain ⟨q, rfl, fq, n1, n2, R1, new⟩ := P1.rep
          obtain ⟨p', hp', n3, old⟩ := R1.own i _ e1
          rw [hp] at hp'
          cases hp'
          have k : Keep (Wf (plus W0 q) s1 σ) H1 (Wf W0 s1 σ) H1 := kp_less
          cases new with
          | lst g1 g2 g3 =>
            cases old with
            | lst o1 o2 o3 =>
              have both := o2.append g2
              obtain ⟨R3, m3⟩ := R1.less.chg (u := .lst _) (o := .lst (xs ++ ys)) e1 hp fun W' kk => .lst upd_same ((both.mv k).mv kk) (by rw [List.length_append]; exact fit)
              exact ⟨p, q, _, _, rfl, rfl, o1, g1, by rw [← o2.len, ← g2.len]; exact fit, h1 _ _ ⟨P1.mv.trans m3, R3, .non⟩⟩
        · exact h1.elim
      · exact h1.elim
theorem cs_rep (h : tE O K mg Wx (.rep a b) σ H Q) : tOp rRep (tE O K mg Wx a) (tE O K mg Wx b) σ H Q := by
  obtain ⟨W0, s, R, h⟩ := h
  refine tE_of R (wpG_bind.mp h) (fun xv s1 v H1 P1 h1 => ?_) EW.id
  split at h1
  · rename_i xs
    obtain ⟨p, rfl, fp, n0, n1, R1, new⟩ := P1.rep
    refine tE_of R1 (wpG_bind.mp h1) (fun yv s2 w H2 P2 h2 => ?_) (fun x s' q c d H' P => q c d H' ⟨P1.mv.trans P.mv, P.rel.less, P.xn⟩)
    split at h2
    · rename_i k e1
      split at h2
      · rename_i hc
        simp only [Bool.and_eq_true, decide_eq_true_eq] at hc
        cases (P2.op.get P2.rel e1).int
        cases new with
        | lst g1 g2 g3 =>
          have at2 := P2.mv.keep p _ g1 n1
          have items := (g2.mv P2.mv.kp).mv (kp_less (W0 := W0) (p := p) (s := s2) (σ := σ) (H := H2))
          refine ⟨p, k, _, rfl, rfl, at2, hc.1.1, hc.1.2, by rw [← g2.len]; exact hc.2, fun l hl => h2 _ _ ((PostV.newL hl (items.flat _) ?_).post P2.rel.less (P1.mv.trans P2.mv))⟩
          rw [PyProof.Rows.lm_len_rep_flat, Nat.mul_comm]
          exact hc.2
      · exact h2.elim
    · exact h2.elim
  · exact h1.elim
/-! ### dict displays -/
def kvOf : D → V
  | .int i => .int i
  | .str x => .str x
  | _ => .non
def trsOf (O : Ora) (K : PySem.W.Frag) (mg : Str → Option Value) (Wx : L2.WX) : List D → CEs → List (TE × TE)
  | k :: ks, .cons e r => (tC (kvOf k), tE O K mg Wx e) :: trsOf O K mg Wx ks r
  | _, _ => []
theorem cs_dnew (h : tE O K mg Wx (.dic [] .nil) σ H Q) : tDNewK σ H Q := by
  obtain ⟨W0, s, R, h⟩ := h
  intro p hp
  have P : PostV K mg (Wf W0 s σ) H (.own (.dic [])) (.ref p) (upd H p (.dK [])) := ⟨grow_upd hp, p, rfl, hp, .dic upd_same rfl .nil (Nat.zero_le _)⟩
  have h : wpG (if ([] : List D).all keyOk && decide (([] : List D).length = ([] : List D).length) && decide (([] : List D).length ≤ 15) then Rs.ok (RV.own (.dic [])) s else .stuck) _ _ := h
  exact h _ _ (P.post R .refl)
theorem kvOf_key {k : D} (h : keyOk k = true) : ∃ j : Key, k = keyD j ∧ kvOf k = kV j := by
  obtain ⟨j, rfl⟩ := keyOk_of h
  refine ⟨j, rfl, ?_⟩
  cases j <;> rfl
def lenE : CEs → Nat
  | .nil => 0
  | .cons _ r => lenE r + 1
theorem cs_pairs : ∀ {ks : List D} {vs : CEs} {W0 : Addr → Prop} {s : Ev} {H : Hp} {P : List RV → Ev → Prop} {E : Xn → Ev → Prop} {Q : List (V × V) → Hp → Prop}, lenE vs = ks.length → Rel K mg W0 s σ H → wpG (evs O vs s) P E →
    (∀ rvs s' ws H', PostL K mg W0 s σ H rvs s' ws H' → P rvs s' → Q ((ks.map kvOf).zip ws) H') → (∀ x s', E x s' → ∀ c d H', PostX K mg W0 s σ H x s' c d H' → Wx c d σ H') → tPairs (trsOf O K mg Wx ks vs) σ H Q
  | [], .nil, W0, s, H, P, E, Q, l, R, h, p, x => p [] s [] H ⟨.refl, R, .nil⟩ h
  | [], .cons e r, W0, s, H, P, E, Q, l, R, h, p, x => by cases l
  | k :: ks, .nil, W0, s, H, P, E, Q, l, R, h, p, x => by cases l
  | k :: ks, .cons e r, W0, s, H, P, E, Q, l, R, h, p, x => by
    have h : wpG ((ev O e s).bind fun x s => (evs O r s).bind fun vs s => .ok (x :: vs) s) _ _ := h
    refine tE_of R (wpG_bind.mp h) (fun xv s1 v H1 P1 h1 => ?_) x
    refine cs_pairs (P := fun rvs s' => P (xv :: rvs) s') (Nat.succ.inj l) P1.rel (wpG_bind.mp h1) (fun rvs s2 ws H2 P2 q => ?_) (xpre P1.mv x)
    exact p (xv :: rvs) s2 (v :: ws) H2 ⟨P1.mv.trans P2.mv, P2.rel, .cons (P1.op.mv P2.mv) P2.ops⟩ q
theorem kv_zip {W : Addr → Prop} {H : Hp} : ∀ {ks ds : List D} {ws : List V}, ks.all keyOk = true → ks.length = ds.length → RepA K mg W H ds ws → ∃ kws : List (Key × V), (ks.map kvOf).zip ws = kws.map (fun kv => (kV kv.1, kv.2)) ∧ KvR K mg W H (ks.zip ds) kws ∧ kws.length = ks.length
  | [], [], _, _, _, r => by cases r; exact ⟨[], rfl, .nil, rfl⟩
  | k :: ks, d :: ds, _, h, l, .cons r1 r => by
    rw [List.all_cons, Bool.and_eq_true] at h
    obtain ⟨kws, e, q, hl⟩ := kv_zip h.2 (Nat.succ.inj l) r
    obtain ⟨j, rfl, e2⟩ := kvOf_key h.1
    rename_i v vs
    refine ⟨(j, v) :: kws, ?_, ⟨?_, ?_⟩, by rw [List.length_cons, List.length_cons, hl]⟩
    · rw [List.map_cons, List.zip_cons_cons, List.map_cons, e, e2]
    · rw [List.zip_cons_cons, List.map_cons, List.map_cons, q.ks]
    · rw [List.zip_cons_cons, List.map_cons, List.map_cons]
      exact .cons r1 q.vs
  | [], _ :: _, _, _, l, _ => by cases l
  | _ :: _, [], _, _, l, _ => by cases l
theorem cs_dic {ks : List D} {vs : CEs} (hl : lenE vs = ks.length) (h : tE O K mg Wx (.dic ks vs) σ H Q) : tDisp (trsOf O K mg Wx ks vs) σ H Q := by
  obtain ⟨W0, s, R, h⟩ := h
  intro p hp
  have g := grow_upd (o := .dK []) hp
  have n0 : ¬ W0 p := fun z => R.out p z hp
  have n1 : ¬ OwnP s σ p := fun z => (R.ownTrk z).1 hp
  have gm : Mv s σ H s σ (upd H p (.dK [])) := Mv.grow g
  have R1 : Rel K mg (plus W0 p) s σ (upd H p (.dK [])) := R.grow g (fun a h => h.elim (fun z => gm.trk a (R.out a z)) fun z => by rw [z, upd_same]; exact fun z => by cases z) (fun a h => h.elim .inl fun z => .inr (z ▸ hp))
  refine cs_pairs hl R1 (wpG_bind.mp h) (fun rvs s1 ws H1 P1 h1 => ?_) (fun x s' e c d H' P => e c d H' ⟨gm.trans P.mv, P.rel.less, P.xn⟩)
  obtain ⟨ds, s2, e, h2⟩ := wpG_frzL (wpG_bind.mp h1)
  obtain ⟨R2, m2, r2⟩ := frzL_ok P1.rel P1.ops e
  split at h2
  · rename_i hc
    simp only [Bool.and_eq_true, decide_eq_true_eq] at hc
    obtain ⟨kws, e1, kv, hl2⟩ := kv_zip hc.1.1 hc.1.2 r2
    have m : Mv s σ (upd H p (.dK [])) s2 σ H1 := P1.mv.trans m2
    have hp1 : H1 p = some (.dK []) := m.keep p _ upd_same n1
    have np : ¬ OwnP s2 σ p := fun z => (R2.ownTrk z).2 (.inr rfl)
    refine ⟨hp1, kws, e1, by rw [hl2]; exact hc.2, ?_⟩
    -- the finished dict
    have kp : ∀ a u, H1 a = some u → ¬ Wf (plus W0 p) s2 σ a → upd H1 p (.dK (mergeK [] kws)) a = some u := fun a u e n => by
      rw [upd_ne (fun z => n (.inl (.inr z)))]
      exact e
    have kk : Keep (Wf (plus W0 p) s2 σ) H1 (Wf (plus W0 p) s2 σ) (upd H1 p (.dK (mergeK [] kws))) := ⟨kp, fun a h => .inl h⟩
    have mm : Mv s σ H s2 σ (upd H1 p (.dK (mergeK [] kws))) := by
      have m' := gm.trans m
      refine ⟨fun a u e n => ?_, m'.own, fun a h => ?_, m'.io⟩
      · have ne : a ≠ p := fun z => by rw [z, hp] at e; cases e
        rw [upd_ne ne]
        exact m'.keep a u e n
      · by_cases z : a = p
        · rw [z, upd_same]; exact fun z => by cases z
        · rw [upd_ne z]; exact m'.trk a h
    have R3 : Rel K mg (plus W0 p) s2 σ (upd H1 p (.dK (mergeK [] kws))) := by
      refine ⟨R2.len, fun a h => ?_, fun i d h => ?_, fun i o h => ?_, R2.dis⟩
      · by_cases z : a = p
        · rw [z, upd_same]; exact fun z => by cases z
        · rw [upd_ne z]; exact R2.out a h
      · obtain ⟨v, h1, h2⟩ := R2.val i d h
        exact ⟨v, h1, h2.mv kk⟩
      · obtain ⟨a, h1, h2, h3⟩ := R2.own i o h
        refine ⟨a, h1, h2, h3.mv kk fun u e => ?_⟩
        rw [upd_ne (fun z => h2 (.inr z))]
        exact e
    have kvm := (KvR.merge kv .nil).mv kk
    have lm := mergeD_len (ks.zip ds) []
    have lz : (ks.zip ds).length ≤ 15 := by rw [List.length_zip]; omega
    refine h2 _ _ ⟨mm, p, rfl, hp, n0, np, R3, .dic upd_same kvm.ks kvm.vs ?_⟩
    rw [sizeLine_eq]
    rw [List.length_nil] at lm
    omega
  · exact h2.elim
end
end GS

/-! GS10: stores to slots, targets, what a loop walks. -/
namespace GS
open PySem PySem.Spec PyProof.Rows L2

section
variable {K : PySem.W.Frag} {mg : Str → Option Value} {W0 W : Addr → Prop} {s s' s1 s2 : Ev} {σ σ' : L2.St} {H H' H1 H2 : Hp} {i : Nat} {p : Addr} {o o' : Ob} {v : V}
theorem sset_ne {x : Option V} {j : Nat} (h : i ≠ j) : (σ.set i x)[j]? = σ[j]? := List.getElem?_set_ne h
theorem sset_at {x : Option V} (h : i < σ.length) : (σ.set i x)[i]? = some x := List.getElem?_set_self h
theorem notIo {x : Option Sl} (h : isIo x = false) : ∀ o, x ≠ some (.io o) := fun o e => by rw [e] at h; cases h
/-- a value goes to a slot -/
theorem Rel.putD {d : D} (R : Rel K mg W0 s σ H) (hl : i < s.length) (hio : isIo s[i]? = false) (r : Rep K mg (Wf W0 s σ) H d v) : Rel K mg W0 (s.set i (.val d)) (σ.set i (some v)) H ∧ Mv s σ H (s.set i (.val d)) (σ.set i (some v)) H := by
  have hl2 : i < σ.length := R.len ▸ hl
  have less : ∀ a, OwnP (s.set i (.val d)) (σ.set i (some v)) a → OwnP s σ a := fun a ⟨j, h1, h2⟩ => by
    by_cases e : i = j
    · subst e; rw [set_at hl] at h1; cases h1
    · rw [set_ne e] at h1; rw [sset_ne e] at h2; exact ⟨j, h1, h2⟩
  have k : Keep (Wf W0 s σ) H (Wf W0 (s.set i (.val d)) (σ.set i (some v))) H := ⟨fun a u h _ => h, fun a z => .inl (z.imp id (less a))⟩
  refine ⟨⟨by rw [List.length_set, List.length_set]; exact R.len, R.out, fun j e hj => ?_, fun j q hj => ?_, fun j m a h1 h2 h3 h4 => ?_⟩, ⟨fun _ _ h _ => h, fun a z => .inl (less a z), fun _ h => h, fun j hj => ?_⟩⟩
  · by_cases q : i = j
    · subst q
      rw [set_at hl] at hj
      cases hj
      exact ⟨v, sset_at hl2, r.mv k⟩
    · rw [set_ne q] at hj
      obtain ⟨w, h1, h2⟩ := R.val j e hj
      exact ⟨w, by rw [sset_ne q]; exact h1, h2.mv k⟩
  · by_cases e : i = j
    · subst e
      unfold ownAt at hj
      rw [set_at hl] at hj
      cases hj
    · unfold ownAt at hj
      rw [set_ne e] at hj
      obtain ⟨a, h1, h2, h3⟩ := R.own j q hj
      exact ⟨a, by rw [sset_ne e]; exact h1, h2, h3.mv k fun _ h => h⟩
  · by_cases e : i = j
    · subst e; rw [set_at hl] at h1; cases h1
    · by_cases e2 : i = m
      · subst e2; rw [set_at hl] at h2; cases h2
      · rw [set_ne e] at h1; rw [set_ne e2] at h2; rw [sset_ne e] at h3; rw [sset_ne e2] at h4
        exact R.dis j m a h1 h2 h3 h4
  · by_cases e : i = j
    · subst e; rw [hio] at hj; cases hj
    · rw [set_ne e, sset_ne e]; exact ⟨hj, rfl⟩
/-- a new object goes to a slot -/
theorem Rel.putO (R : Rel K mg (plus W0 p) s σ H) (hl : i < s.length) (hio : isIo s[i]? = false) (n0 : ¬ W0 p) (n1 : ¬ OwnP s σ p) (ob : ObAt K mg (Wf (plus W0 p) s σ) H p o) :
    Rel K mg W0 (s.set i (.own o)) (σ.set i (some (.ref p))) H ∧ ∀ a, OwnP (s.set i (.own o)) (σ.set i (some (.ref p))) a → OwnP s σ a ∨ a = p := by
  have hl2 : i < σ.length := R.len ▸ hl
  have less : ∀ a, OwnP (s.set i (.own o)) (σ.set i (some (.ref p))) a → OwnP s σ a ∨ a = p := fun a ⟨j, h1, h2⟩ => by
    by_cases e : i = j
    · subst e; rw [sset_at hl2] at h2; cases h2; exact .inr rfl
    · rw [set_ne e] at h1; rw [sset_ne e] at h2; exact .inl ⟨j, h1, h2⟩
  have k : Keep (Wf (plus W0 p) s σ) H (Wf W0 (s.set i (.own o)) (σ.set i (some (.ref p)))) H := ⟨fun a u h _ => h, fun a z => .inl (z.elim (fun z => .inl (.inl z)) fun z => (less a z).elim .inr fun z => .inl (.inr z))⟩
  refine ⟨⟨by rw [List.length_set, List.length_set]; exact R.len, fun a h => R.out a (.inl h), fun j e hj => ?_, fun j q hj => ?_, fun j m a h1 h2 h3 h4 => ?_⟩, less⟩
  · by_cases q : i = j
    · subst q
      rw [set_at hl] at hj
      cases hj
    · rw [set_ne q] at hj
      obtain ⟨w, h1, h2⟩ := R.val j e hj
      exact ⟨w, by rw [sset_ne q]; exact h1, h2.mv k⟩
  · by_cases e : i = j
    · subst e
      unfold ownAt at hj
      rw [set_at hl] at hj
      cases hj
      exact ⟨p, sset_at hl2, n0, ob.mv k fun _ h => h⟩
    · unfold ownAt at hj
      rw [set_ne e] at hj
      obtain ⟨a, h1, h2, h3⟩ := R.own j q hj
      exact ⟨a, by rw [sset_ne e]; exact h1, fun z => h2 (.inl z), h3.mv k fun _ h => h⟩
  · have g : ∀ n : Nat, isOwn (s.set i (.own o))[n]? = true → (σ.set i (some (.ref p)))[n]? = some (some (.ref a)) → (i = n ∧ a = p) ∨ (isOwn s[n]? = true ∧ σ[n]? = some (some (.ref a)) ∧ i ≠ n) := fun n hn hv => by
      by_cases e : i = n
      · subst e; rw [sset_at hl2] at hv; cases hv; exact .inl ⟨rfl, rfl⟩
      · rw [set_ne e] at hn; rw [sset_ne e] at hv; exact .inr ⟨hn, hv, e⟩
    rcases g j h1 h3 with ⟨e1, e2⟩ | ⟨q1, q2, q3⟩
    · rcases g m h2 h4 with ⟨e3, e4⟩ | ⟨q4, q5, q6⟩
      · rw [← e1, ← e3]
      · exact absurd ⟨m, q4, e2 ▸ q5⟩ n1
    · rcases g m h2 h4 with ⟨e3, e4⟩ | ⟨q4, q5, q6⟩
      · exact absurd ⟨j, q1, e4 ▸ q2⟩ n1
      · exact R.dis j m a q1 q4 q2 q5
theorem putS_ok {x : Sl} (e : putS i x s = .ok () s') : i < s.length ∧ isIo s[i]? = false ∧ s' = s.set i x := by
  unfold putS at e
  split at e
  · rename_i h
    simp only [Bool.and_eq_true, decide_eq_true_eq, Bool.not_eq_true'] at h
    cases e
    exact ⟨h.1, h.2, rfl⟩
  · cases e
theorem wpG_putS {x : Sl} {P : Unit → Ev → Prop} {E : Xn → Ev → Prop} (h : wpG (putS i x s) P E) : putS i x s = .ok () (s.set i x) ∧ P () (s.set i x) := by
  unfold putS at h ⊢
  split at h
  · rename_i hc
    exact ⟨by rw [if_pos hc], h⟩
  · exact h.elim
theorem putV_ok {rv : RV} (P : PostE K mg W0 s σ H rv s1 v H1) (e : putV i rv s1 = .ok () s2) : Mv s σ H s2 (σ.set i (some v)) H1 ∧ Rel K mg W0 s2 (σ.set i (some v)) H1 := by
  have val : ∀ {rv : RV}, PostE K mg W0 s σ H rv s1 v H1 → ((frz rv s1).bind fun d s => putS i (.val d) s) = .ok () s2 → Mv s σ H s2 (σ.set i (some v)) H1 ∧ Rel K mg W0 s2 (σ.set i (some v)) H1 := fun {rv} P e => by
    cases q : frz rv s1 with
    | er x s3 => rw [q] at e; cases e
    | stuck => rw [q] at e; cases e
    | ok d s3 =>
      rw [q] at e
      have e : putS i (.val d) s3 = .ok () s2 := e
      obtain ⟨R1, m1, r⟩ := frz_ok P.rel P.op q
      obtain ⟨h1, h2, rfl⟩ := putS_ok e
      obtain ⟨R2, m2⟩ := R1.putD h1 h2 r
      exact ⟨(P.mv.trans m1).trans m2, R2⟩
  cases rv with
  | own ob =>
    have e : putS i (.own ob) s1 = .ok () s2 := e
    obtain ⟨h1, h2, rfl⟩ := putS_ok e
    obtain ⟨p, rfl, np, n0, n1, R, hob⟩ := P.rep
    obtain ⟨R2, less⟩ := R.putO h1 h2 n0 n1 hob
    refine ⟨⟨P.mv.keep, fun a z => ?_, P.mv.trk, fun j hj => ?_⟩, R2⟩
    · rcases less a z with z | z
      · exact P.mv.own a z
      · exact .inr (z ▸ np)
    · obtain ⟨h3, _⟩ := P.mv.io j hj
      have ne : i ≠ j := fun z => by rw [z] at h2; rw [h2] at h3; cases h3
      exact ⟨by rw [set_ne ne]; exact h3, sset_ne ne⟩
  | d x => exact val P e
  | sl j => exact val P e
theorem wpG_putV {rv : RV} {P : Unit → Ev → Prop} {E : Xn → Ev → Prop} (h : wpG (putV i rv s) P E) : ∃ s', putV i rv s = .ok () s' ∧ P () s' := by
  have val : ∀ {rv : RV}, wpG ((frz rv s).bind fun d s => putS i (.val d) s) P E → ∃ s', ((frz rv s).bind fun d s => putS i (.val d) s) = .ok () s' ∧ P () s' := fun {rv} h => by
    obtain ⟨d, s1, e, h1⟩ := wpG_frz (wpG_bind.mp h)
    obtain ⟨e2, h2⟩ := wpG_putS h1
    exact ⟨_, by rw [e]; exact e2, h2⟩
  cases rv with
  | own ob =>
    have h : wpG (putS i (.own ob) s) P E := h
    obtain ⟨e, h1⟩ := wpG_putS h
    exact ⟨_, e, h1⟩
  | d x => exact val (rv := .d x) h
  | sl j => exact val (rv := .sl j) h
/-! ### targets -/
def TgO (tg : CT) (σ σ' : L2.St) : Prop := ∀ ow : List Nat, tgIn ow tg = true → wipe σ' ow = wipe σ ow
theorem wipe_set {ow : List Nat} {x : Option V} (h : i ∈ ow) : wipe (σ.set i x) ow = wipe σ ow := by
  induction ow with
  | nil => cases h
  | cons j r ih =>
    by_cases hr : i ∈ r
    · show (wipe (σ.set i x) r).set j none = (wipe σ r).set j none
      rw [ih hr]
    · have e : i = j := by
        rcases List.mem_cons.mp h with h | h
        · exact h
        · exact absurd h hr
      subst e
      have q : ∀ {r : List Nat}, i ∉ r → wipe (σ.set i x) r = (wipe σ r).set i x := fun {r} => by
        induction r with
        | nil => exact fun _ => rfl
        | cons k r ih2 =>
          intro hn
          show (wipe (σ.set i x) r).set k none = ((wipe σ r).set k none).set i x
          rw [ih2 fun z => hn (List.mem_cons_of_mem _ z), List.set_comm _ _ (fun z => hn (by rw [z]; exact List.mem_cons_self))]
      show (wipe (σ.set i x) r).set i none = (wipe σ r).set i none
      rw [q hr, List.set_set]
def tG (K : PySem.W.Frag) (mg : Str → Option Value) (tg : CT) : TG := fun v σ H Q => ∃ W0 s d, Rel K mg W0 s σ H ∧ Rep K mg (Wf W0 s σ) H d v ∧ wpG (bindT tg d s) (fun _ s' => ∀ σ', TgO tg σ σ' → Mv s σ H s' σ' H → Rel K mg W0 s' σ' H → Q σ' H) (fun _ _ => False)
def tGs (K : PySem.W.Frag) (mg : Str → Option Value) (is : List Nat) : TGs := fun vs σ H Q => ∃ W0 s ds, Rel K mg W0 s σ H ∧ RepA K mg (Wf W0 s σ) H ds vs ∧ wpG (bindAll is ds s) (fun _ s' => ∀ σ', TgO (.tup is) σ σ' → Mv s σ H s' σ' H → Rel K mg W0 s' σ' H → Q σ' H) (fun _ _ => False)
theorem tgo_nm : TgO (.nm i) σ (σ.set i (some v)) := fun ow h => wipe_set (by
  have h : ow.contains i = true := h
  simpa using h)
theorem cs_gname {Q : L2.St → Hp → Prop} (h : tG K mg (.nm i) v σ H Q) : gName i v σ H Q := by
  obtain ⟨W0, s, d, R, r, h⟩ := h
  obtain ⟨e, h1⟩ := wpG_putS (show wpG (putS i (.val d) s) _ _ from h)
  obtain ⟨h2, h3, _⟩ := putS_ok e
  obtain ⟨R2, m⟩ := R.putD h2 h3 r
  exact h1 _ tgo_nm m R2
theorem cs_gnil {vs : List V} {Q : L2.St → Hp → Prop} (h : tGs K mg [] vs σ H Q) : gNil vs σ H Q := by
  obtain ⟨W0, s, ds, R, r, h⟩ := h
  cases r with
  | nil => exact ⟨rfl, h σ (fun _ _ => rfl) .refl R⟩
  | cons _ _ => exact h.elim
theorem cs_gcons {is : List Nat} {vs : List V} {Q : L2.St → Hp → Prop} (h : tGs K mg (i :: is) vs σ H Q) : gCons (gName i) (tGs K mg is) vs σ H Q := by
  obtain ⟨W0, s, ds, R, r, h⟩ := h
  cases r with
  | nil => exact h.elim
  | @cons d v ds vs r1 r2 =>
    have h : wpG ((putS i (.val d) s).bind fun _ s => bindAll is ds s) _ _ := h
    obtain ⟨e, h1⟩ := wpG_putS (wpG_bind.mp h)
    obtain ⟨h2, h3, _⟩ := putS_ok e
    obtain ⟨R2, m⟩ := R.putD h2 h3 r1
    refine ⟨v, vs, rfl, W0, _, ds, R2, r2.mv m.kp, h1.mono (fun _ s' q σ' t m' R' => q σ' (fun ow ht => ?_) (m.trans m') R') fun _ _ z => z⟩
    have ht' : ow.contains i = true ∧ is.all ow.contains = true := by
      have : (i :: is).all ow.contains = true := ht
      rw [List.all_cons, Bool.and_eq_true] at this
      exact this
    rw [t ow ht'.2]
    exact tgo_nm ow ht'.1
theorem bindAll_len {E : Xn → Ev → Prop} {P : Unit → Ev → Prop} : ∀ {is : List Nat} {ds : List D} {s : Ev}, wpG (bindAll is ds s) P E → is.length = ds.length
  | [], [], _, _ => rfl
  | [], _ :: _, _, h => h.elim
  | _ :: _, [], _, h => h.elim
  | i :: is, d :: ds, s, h => by
    have h : wpG ((putS i (.val d) s).bind fun _ s => bindAll is ds s) P E := h
    obtain ⟨_, h1⟩ := wpG_putS (wpG_bind.mp h)
    exact congrArg Nat.succ (bindAll_len h1)
theorem cs_gtup {is : List Nat} {Q : L2.St → Hp → Prop} (h : tG K mg (.tup is) v σ H Q) : gTup K is.length (tGs K mg is) v σ H Q := by
  obtain ⟨W0, s, d, R, r, h⟩ := h
  cases d with
  | tuple ds =>
    have h : wpG (bindAll is ds s) _ _ := h
    obtain ⟨a, vs, rfl, h1, h2, h3, _⟩ := (RepB.of r).tup
    exact ⟨a, vs, rfl, h1, h2.len ▸ (bindAll_len h).symm, W0, s, ds, R, h2, h⟩
  | _ => exact h.elim
end

/-! ### what a loop walks -/
structure IterOf (K : PySem.W.Frag) (mg : Str → Option Value) (W : Addr → Prop) (J : It) (H0 : Hp) (ds : List D) : Prop where
  go : ∀ (W' : Addr → Prop) (H : Hp) i, Keep W H0 W' H → i < ds.length → J.go i H
  yld : ∀ (W' : Addr → Prop) (H : Hp) i x H', Keep W H0 W' H → i < ds.length → (∀ a, W' a → H a ≠ none) → J.yld i H x H' → (∀ a u, H a = some u → H' a = some u) ∧ ∃ d, ds[i]? = some d ∧ Rep K mg W' H' d x
  stop : ∀ (W' : Addr → Prop) (H : Hp) i, Keep W H0 W' H → i = ds.length → J.stop i H
def tI (O : Ora) (K : PySem.W.Frag) (mg : Str → Option Value) (Wx : L2.WX) (it : CI) : TI := fun σ H R => ∃ W0 s, Rel K mg W0 s σ H ∧ wpG (evI O it s) (fun ds s' => ∀ J H', Mv s σ H s' σ H' → Rel K mg W0 s' σ H' → IterOf K mg (Wf W0 s' σ) J H' ds → R J H') (EW K mg Wx W0 s σ H)
theorem PI.imp {X : Cx} {tg e : Expr} {t t' : TI} (h : L2.PI X tg e t) (i : ∀ σ H Q, t' σ H Q → t σ H Q) : L2.PI X tg e t' := ⟨fun pins s σ H Q I q => h.run pins s σ H Q I (i σ H Q q)⟩
section
variable {K : PySem.W.Frag} {mg : Str → Option Value} {W W' : Addr → Prop} {H H' : Hp} {xs : List D} {vs : List V} {a : Addr}
theorem RepA.at' {i : Nat} {v : V} (r : RepA K mg W H xs vs) (h : vs[i]? = some v) : ∃ d, xs[i]? = some d ∧ Rep K mg W H d v := by
  have hl : i < xs.length := by
    rw [r.len]
    exact (List.getElem?_eq_some_iff.mp h).1
  obtain ⟨w, h1, h2⟩ := r.get (i := i) (d := xs[i]) (by simp [hl])
  rw [h] at h1
  cases h1
  exact ⟨xs[i], by simp [hl], h2⟩
theorem iter_list (h : AtL K W H a vs) (r : RepA K mg W H xs vs) : IterOf K mg W (Itl K a) H xs where
  go := fun W' H' i k hi => by
    rw [r.len] at hi
    exact ⟨vs, vs[i], (h.mv k).sq, by simp [hi]⟩
  yld := fun W' H' i x H2 k hi _ y => by
    obtain ⟨e, y⟩ := y
    subst e
    exact ⟨fun _ _ h => h, (r.mv k).at' (y vs (h.mv k).sq)⟩
  stop := fun W' H' i k hi => ⟨vs, (h.mv k).sq, by rw [← r.len, hi]; exact Nat.le_refl _⟩
theorem iter_tup (h : AtT K W H a vs) (r : RepA K mg W H xs vs) : IterOf K mg W (Itt K a) H xs where
  go := fun W' H' i k hi => by
    rw [r.len] at hi
    exact ⟨vs, vs[i], (h.mv k).sq, by simp [hi]⟩
  yld := fun W' H' i x H2 k hi _ y => by
    obtain ⟨e, y⟩ := y
    subst e
    exact ⟨fun _ _ h => h, (r.mv k).at' (y vs (h.mv k).sq)⟩
  stop := fun W' H' i k hi => ⟨vs, (h.mv k).sq, by rw [← r.len, hi]; exact Nat.le_refl _⟩
theorem iter_str {z : Str} (h : PyData.strOk z = true) : IterOf K mg W (Its z) H (z.cps.toList.map chr1) where
  go := fun W' H' i k hi => by
    have hi : i < z.cps.size := by simpa using hi
    exact hi
  yld := fun W' H' i x H2 k hi _ y => by
    obtain ⟨e, c, hc, y⟩ := y
    subst e y
    have hc' : z.cps.toList[i]? = some c := by simpa using hc
    exact ⟨fun _ _ h => h, chr1 c, by rw [List.getElem?_map, hc']; rfl, .str _ (strOk_chr h (List.mem_of_getElem? hc')) one_size⟩
  stop := fun W' H' i k hi => by
    have hi : z.cps.size ≤ i := by rw [hi]; simp
    exact hi
theorem iter_range (lo : Int) (n : Nat) : IterOf K mg W (Itr lo n) H ((List.range n).map fun (k : Nat) => PyData.int (lo + (k : Int))) where
  go := fun W' H' i k hi => by
    have hi : i < n := by simpa using hi
    exact hi
  yld := fun W' H' i x H2 k hi _ y => by
    have hi : i < n := by simpa using hi
    obtain ⟨e, y⟩ := y
    subst e y
    exact ⟨fun _ _ h => h, _, by rw [List.getElem?_map, List.getElem?_range hi]; rfl, .int _⟩
  stop := fun W' H' i k hi => by
    have hi : n ≤ i := by rw [hi]; simp
    exact hi
theorem iter_range0 (n : Nat) : IterOf K mg W (Itr 0 n) H ((List.range n).map fun (k : Nat) => PyData.int (k : Int)) := by
  have h := iter_range (K := K) (mg := mg) (W := W) (H := H) 0 n
  have e : (fun (k : Nat) => PyData.int (0 + (k : Int))) = fun (k : Nat) => PyData.int (k : Int) := funext fun k => by rw [Int.zero_add]
  rw [e] at h
  exact h
end
section
variable {X : Cx} {O : Ora} {Wx : L2.WX} {tg e : Expr} {a b : GS.CE}
/-- any thing that may be walked -/
theorem pi_any (hc : X.calm = true) (he : L2.PE X e (tE O X.K X.mg Wx a)) : L2.PI X tg e (tI O X.K X.mg Wx (.v a)) := by
  refine ⟨fun pins s0 σ H R I h => ?_⟩
  obtain ⟨W0, s, R0, h⟩ := h
  have h : wpG ((ev O a s).bind fun x s => (frz x s).bind fun d s => Rs.opt (itemsD d) s) _ _ := h
  refine thn (he.run pins s0 σ H (fun v H1 => ∃ d s2 ds, Rel X.K X.mg W0 s2 σ H1 ∧ Mv s σ H s2 σ H1 ∧ Rep X.K X.mg (Wf W0 s2 σ) H1 d v ∧ itemsD d = some ds ∧ ∀ J, IterOf X.K X.mg (Wf W0 s2 σ) J H1 ds → R J H1) I
    (tE_of R0 (wpG_bind.mp h) (fun xv s1 v H1 P1 h1 => ?_) EW.id)) fun v s1 ⟨x, H1, I1, r1, d, s2, ds, R2, m2, rd, e1, q⟩ => ?_
  · obtain ⟨d, s2, e1, h2⟩ := wpG_frz (wpG_bind.mp h1)
    obtain ⟨R2, m2, r2⟩ := frz_ok P1.rel P1.op e1
    obtain ⟨ds, e2, h3⟩ := wpG_opt h2
    exact ⟨d, s2, ds, R2, P1.mv.trans m2, r2, e2, fun J hJ => h3 J H1 (P1.mv.trans m2) R2 hJ⟩
  · unfold itemsD at e1
    split at e1
    · cases e1
      cases rd with
      | lst g r l =>
        cases r1
        obtain ⟨its, rv, p, hz⟩ := I1.list g.sq
        exact wpAny_pyIter_list p.isList (pi_one (tk := s1.toks) I1 _ (turn_list _ _) ⟨_, Heap.get?_push_size _ rfl, rfl, rfl⟩ (q _ (iter_list g r)))
    · cases e1
      cases rd with
      | tup g r l =>
        cases r1
        obtain ⟨its, rv, p, hz⟩ := I1.tuple g.sq
        exact wpAny_pyIter_tuple (show s1.heap.IsTuple _ its.toArray from p) (pi_one (tk := s1.toks) I1 _ (turn_tuple _ _) ⟨_, Heap.get?_push_size _ rfl, rfl, rfl⟩ (q _ (iter_tup g r)))
    · rename_i z
      cases e1
      cases rd with
      | str _ g l =>
        obtain ⟨t, rfl⟩ := r1
        have q' := q _ (iter_str g)
        cases ha : z.cps.all (· < 128)
        · exact wpAny_pyIter_wide ha (pi_one (tk := s1.toks) I1 _ (turn_str _ z t "str_iterator" (.inr rfl)) ⟨_, Heap.get?_push_size _ rfl, rfl, rfl⟩ q')
        · exact wpAny_pyIter_ascii ha (pi_one (tk := s1.toks) I1 _ (turn_str _ z t "str_ascii_iterator" (.inl rfl)) ⟨_, Heap.get?_push_size _ rfl, rfl, rfl⟩ q')
    · cases e1
theorem cs_rng1 {σ : L2.St} {H : Hp} {R : It → Hp → Prop} (h : tI O X.K X.mg Wx (.rng1 a) σ H R) : iRng1 (tCons (tE O X.K X.mg Wx a) tNil) σ H R := by
  obtain ⟨W0, s, R0, h⟩ := h
  refine tE_of R0 (wpG_bind.mp h) (fun xv s1 v H1 P1 h1 => ?_) EW.id
  split at h1
  · rename_i j e
    split at h1
    · rename_i hc
      simp only [Bool.and_eq_true, decide_eq_true_eq] at hc
      cases (P1.op.get P1.rel e).int
      exact ⟨j, rfl, hc.1, hc.2, h1 _ _ P1.mv P1.rel (iter_range0 _)⟩
    · exact h1.elim
  · exact h1.elim
theorem cs_rng2 {σ : L2.St} {H : Hp} {R : It → Hp → Prop} (h : tI O X.K X.mg Wx (.rng2 a b) σ H R) : iRng2 (tCons (tE O X.K X.mg Wx a) (tCons (tE O X.K X.mg Wx b) tNil)) σ H R := by
  obtain ⟨W0, s, R0, h⟩ := h
  refine tE_of R0 (wpG_bind.mp h) (fun xv s1 v H1 P1 h1 => tE_of P1.rel (wpG_bind.mp h1) (fun yv s2 w H2 P2 h2 => ?_) (xpre P1.mv EW.id)) EW.id
  split at h2
  · rename_i i j e1 e2
    split at h2
    · rename_i hc
      simp only [Bool.and_eq_true, decide_eq_true_eq] at hc
      cases ((P1.op.mv P2.mv).get P2.rel e1).int
      cases (P2.op.get P2.rel e2).int
      exact ⟨i, j, rfl, ⟨hc.1.1.1, hc.1.1.2, hc.1.2, hc.2⟩, h2 _ _ (P1.mv.trans P2.mv) P2.rel (iter_range _ _)⟩
    · exact h2.elim
  · exact h2.elim
end
end GS

/-! GS11: list comprehensions. -/
namespace GS
open PySem PySem.Spec PyProof.Rows L2

section
variable {K : PySem.W.Frag} {mg : Str → Option Value} {W0 W : Addr → Prop} {s s' s0 s1 s2 : Ev} {σ σ' : L2.St} {H H' H1 H2 : Hp} {i : Nat} {p : Addr} {v : V} {ow : List Nat}
theorem wipeS_len : ∀ (ow : List Nat), (wipeS s ow).length = s.length
  | [] => rfl
  | i :: r => by show ((wipeS s r).set i .emp).length = _; rw [List.length_set, wipeS_len r]
theorem wipeS_out {j : Nat} : ∀ {ow : List Nat}, j ∉ ow → (wipeS s ow)[j]? = s[j]?
  | [], _ => rfl
  | i :: r, h => by
    show ((wipeS s r).set i .emp)[j]? = _
    rw [set_ne (fun z => h (by rw [z]; exact List.mem_cons_self)), wipeS_out fun z => h (List.mem_cons_of_mem _ z)]
theorem wipeS_in {j : Nat} : ∀ {ow : List Nat}, j ∈ ow → (wipeS s ow)[j]? = some .emp ∨ (wipeS s ow)[j]? = none
  | [], h => by cases h
  | i :: r, h => by
    show ((wipeS s r).set i .emp)[j]? = _ ∨ ((wipeS s r).set i .emp)[j]? = _
    by_cases e : i = j
    · subst e
      by_cases hl : i < (wipeS s r).length
      · exact .inl (set_at hl)
      · exact .inr (List.getElem?_eq_none (by rw [List.length_set]; omega))
    · rw [set_ne e]
      rcases List.mem_cons.mp h with h | h
      · exact absurd h.symm e
      · exact wipeS_in h
theorem wipe_inn {j : Nat} {ow : List Nat} (h : j ∈ ow) : ∀ x, (wipe σ ow)[j]? ≠ some (some x) := fun x e => (wipe_some e).2 h
theorem wipe_idem : wipe (wipe σ ow) ow = wipe σ ow := by
  apply List.ext_getElem?
  intro j
  by_cases h : j ∈ ow
  · have hl1 := wipe_length (wipe σ ow) ow
    have hl2 := wipe_length σ ow
    have g : ∀ {τ : L2.St}, (wipe τ ow)[j]? = if j < τ.length then some none else none := fun {τ} => by
      split
      · rename_i hl
        have hl' : j < (wipe τ ow).length := by rw [wipe_length]; exact hl
        rw [List.getElem?_eq_getElem hl']
        congr 1
        cases e : (wipe τ ow)[j] with
        | none => rfl
        | some x => exact absurd (by rw [List.getElem?_eq_getElem hl', e]) (wipe_inn h x)
      · rename_i hl
        exact List.getElem?_eq_none (by rw [wipe_length]; omega)
    rw [g, g, wipe_length]
  · rw [wipe_out h]
theorem backS_len : ∀ (ow : List Nat), (backS s0 s ow).length = s.length
  | [] => rfl
  | i :: r => by show ((backS s0 s r).set i _).length = _; rw [List.length_set, backS_len r]
theorem backS_out {j : Nat} : ∀ {ow : List Nat}, j ∉ ow → (backS s0 s ow)[j]? = s[j]?
  | [], _ => rfl
  | i :: r, h => by
    show ((backS s0 s r).set i _)[j]? = _
    rw [set_ne (fun z => h (by rw [z]; exact List.mem_cons_self)), backS_out fun z => h (List.mem_cons_of_mem _ z)]
theorem backS_in {j : Nat} : ∀ {ow : List Nat}, j ∈ ow → j < s.length → (backS s0 s ow)[j]? = some ((s0[j]?).getD .emp)
  | [], h, _ => by cases h
  | i :: r, h, hl => by
    show ((backS s0 s r).set i _)[j]? = _
    by_cases e : i = j
    · subst e
      exact set_at (by rw [backS_len]; exact hl)
    · rw [set_ne e]
      rcases List.mem_cons.mp h with h | h
      · exact absurd h.symm e
      · exact backS_in h hl
theorem any_own (h : (ow.any fun i => isOwn s[i]?) = false) {j : Nat} (hj : j ∈ ow) : isOwn s[j]? = false := by
  have := List.any_eq_false.mp h j hj
  simpa using this
/-- the own slots are forgotten -/
theorem Rel.wipe (R : Rel K mg W0 s σ H) (h : (ow.any fun i => isOwn s[i]?) = false) : Rel K mg W0 (wipeS s ow) (L2.wipe σ ow) H ∧ Mv s σ H (wipeS s ow) (L2.wipe σ ow) H := by
  have io : ∀ {j : Nat}, isOwn (wipeS s ow)[j]? = true → j ∉ ow ∧ isOwn s[j]? = true := fun {j} hj => by
    by_cases e : j ∈ ow
    · rcases wipeS_in (s := s) e with z | z <;> (rw [z] at hj; cases hj)
    · rw [wipeS_out e] at hj; exact ⟨e, hj⟩
  have less : ∀ a, OwnP (wipeS s ow) (L2.wipe σ ow) a → OwnP s σ a := fun a ⟨j, h1, h2⟩ => by
    obtain ⟨e, h3⟩ := io h1
    rw [wipe_out e] at h2
    exact ⟨j, h3, h2⟩
  have k : Keep (Wf W0 s σ) H (Wf W0 (wipeS s ow) (L2.wipe σ ow)) H := ⟨fun a u h _ => h, fun a z => .inl (z.imp id (less a))⟩
  refine ⟨⟨by rw [wipeS_len, wipe_length]; exact R.len, R.out, fun j d hj => ?_, fun j o hj => ?_, fun j m a h1 h2 h3 h4 => ?_⟩, ⟨fun _ _ h _ => h, fun a z => .inl (less a z), fun _ h => h, fun j hj => ?_⟩⟩
  · by_cases e : j ∈ ow
    · rcases wipeS_in (s := s) e with z | z <;> (rw [z] at hj; cases hj)
    · rw [wipeS_out e] at hj
      obtain ⟨v, h1, h2⟩ := R.val j d hj
      exact ⟨v, by rw [wipe_out e]; exact h1, h2.mv k⟩
  · obtain ⟨e, h3⟩ := io (own_is hj)
    unfold ownAt at hj
    rw [wipeS_out e] at hj
    obtain ⟨a, h1, h2, h3⟩ := R.own j o hj
    exact ⟨a, by rw [wipe_out e]; exact h1, h2, h3.mv k fun _ h => h⟩
  · obtain ⟨e1, q1⟩ := io h1
    obtain ⟨e2, q2⟩ := io h2
    rw [wipe_out e1] at h3
    rw [wipe_out e2] at h4
    exact R.dis j m a q1 q2 h3 h4
  · have e : j ∉ ow := fun z => by
      have := any_own h z
      cases q : s[j]? with
      | none => rw [q] at hj; cases hj
      | some x =>
        rw [q] at hj this
        cases x with
        | io o => cases this
        | _ => cases hj
    rw [wipeS_out e, wipe_out e]
    exact ⟨hj, rfl⟩
/-- .. and stand again -/
theorem Rel.back (R0 : Rel K mg W0 s0 σ H) (h0 : (ow.any fun i => isOwn s0[i]?) = false) (h1 : (ow.any fun i => isOwn s[i]?) = false) (R : Rel K mg W s (L2.wipe σ ow) H') (m : Mv s0 σ H s (L2.wipe σ ow) H') (o2 : ∀ a, W a → W0 a ∨ H a = none) :
    Rel K mg W (backS s0 s ow) σ H' ∧ Mv s0 σ H (backS s0 s ow) σ H' := by
  have hl : s.length = s0.length := by rw [R.len, R0.len, wipe_length]
  have gin : ∀ {j : Nat}, j ∈ ow → (backS s0 s ow)[j]? = s0[j]? := fun {j} e => by
    by_cases q : j < s.length
    · rw [backS_in e q]
      rw [List.getElem?_eq_getElem (by omega)]
      rfl
    · rw [List.getElem?_eq_none (by rw [backS_len]; omega), List.getElem?_eq_none (by omega)]
  have io : ∀ {j : Nat}, isOwn (backS s0 s ow)[j]? = true → j ∉ ow ∧ isOwn s[j]? = true := fun {j} hj => by
    by_cases e : j ∈ ow
    · rw [gin e, any_own h0 e] at hj; cases hj
    · rw [backS_out e] at hj; exact ⟨e, hj⟩
  have less : ∀ a, OwnP (backS s0 s ow) σ a → OwnP s (L2.wipe σ ow) a := fun a ⟨j, h1, h2⟩ => by
    obtain ⟨e, h3⟩ := io h1
    exact ⟨j, h3, by rw [wipe_out e]; exact h2⟩
  have k : Keep (Wf W s (L2.wipe σ ow)) H' (Wf W (backS s0 s ow) σ) H' := ⟨fun a u h _ => h, fun a z => .inl (z.imp id (less a))⟩
  have k0 : Keep (Wf W0 s0 σ) H (Wf W (backS s0 s ow) σ) H' := ⟨fun a u h n => m.keep a u h fun z => n (.inr z), fun a z => z.elim (fun z => (o2 a z).imp .inl id) fun z => (m.own a (less a z)).imp .inr id⟩
  refine ⟨⟨by rw [backS_len, hl]; exact R0.len, R.out, fun j d hj => ?_, fun j o hj => ?_, fun j m a h1 h2 h3 h4 => ?_⟩, ⟨m.keep, fun a z => m.own a (less a z), m.trk, fun j hj => ?_⟩⟩
  · by_cases e : j ∈ ow
    · rw [gin e] at hj
      obtain ⟨v, h1, h2⟩ := R0.val j d hj
      exact ⟨v, h1, h2.mv k0⟩
    · rw [backS_out e] at hj
      obtain ⟨v, h1, h2⟩ := R.val j d hj
      exact ⟨v, by rw [wipe_out e] at h1; exact h1, h2.mv k⟩
  · obtain ⟨e, h3⟩ := io (own_is hj)
    unfold ownAt at hj
    rw [backS_out e] at hj
    obtain ⟨a, h1, h2, h3⟩ := R.own j o hj
    exact ⟨a, by rw [wipe_out e] at h1; exact h1, h2, h3.mv k fun _ h => h⟩
  · obtain ⟨e1, q1⟩ := io h1
    obtain ⟨e2, q2⟩ := io h2
    exact R.dis j m a q1 q2 (by rw [wipe_out e1]; exact h3) (by rw [wipe_out e2]; exact h4)
  · have e : j ∉ ow := fun z => by
      have := any_own h0 z
      cases q : s0[j]? with
      | none => rw [q] at hj; cases hj
      | some x =>
        rw [q] at hj this
        cases x with
        | io o => cases this
        | _ => cases hj
    rw [backS_out e]
    exact ⟨(m.io j hj).1, rfl⟩
/-- an object of the outer words changes -/
theorem Rel.updO {u : HO} (R : Rel K mg W s σ H) (h : W p) : Rel K mg W s σ (upd H p u) := by
  have k : Keep (Wf W s σ) H (Wf W s σ) (upd H p u) := ⟨fun a u' e n => by
    rw [upd_ne (fun z => n (.inl (by rw [z]; exact h)))]
    exact e, fun a z => .inl z⟩
  refine ⟨R.len, fun a ha => ?_, fun j d hj => ?_, fun j o hj => ?_, R.dis⟩
  · by_cases e : a = p
    · rw [e, upd_same]; exact fun z => by cases z
    · rw [upd_ne e]; exact R.out a ha
  · obtain ⟨v, h1, h2⟩ := R.val j d hj
    exact ⟨v, h1, h2.mv k⟩
  · obtain ⟨a, h1, h2, h3⟩ := R.own j o hj
    exact ⟨a, h1, h2, h3.mv k fun u' e => by
      rw [upd_ne (fun z => h2 (by rw [z]; exact h))]
      exact e⟩
theorem Mv.updN {u : HO} (m : Mv s σ H s' σ' H') (h : H p = none) : Mv s σ H s' σ' (upd H' p u) :=
  ⟨fun a u' e n => by
    rw [upd_ne (fun z => by rw [z, h] at e; cases e)]
    exact m.keep a u' e n, m.own, fun a ha => by
    by_cases e : a = p
    · rw [e, upd_same]; exact fun z => by cases z
    · rw [upd_ne e]; exact m.trk a ha, m.io⟩
theorem wpG_noX {α : Type} {r : Rs α} {P : α → Ev → Prop} {E : Xn → Ev → Prop} (h : wpG (noX r) P E) : wpG r P (fun _ _ => False) := by
  cases r with
  | ok a s => exact h
  | er x s => exact h
  | stuck => exact h
theorem wpG_wipeC {P : Unit → Ev → Prop} {E : Xn → Ev → Prop} (h : wpG (wipeC ow s) P E) : (ow.any fun i => isOwn s[i]?) = false ∧ P () (wipeS s ow) := by
  unfold wipeC at h
  split at h
  · exact h.elim
  · rename_i e
    exact ⟨by simpa using e, h⟩
theorem wiped_own : (ow.any fun i => isOwn (wipeS s ow)[i]?) = false := by
  rw [List.any_eq_false]
  intro j hj
  rcases wipeS_in (s := s) hj with z | z <;> (rw [z]; decide)
end
section
variable {O : Ora} {K : PySem.W.Frag} {mg : Str → Option Value} {Wx : L2.WX}
def noWx : L2.WX := fun _ _ _ _ => False
/-- the tests of a clause -/
def tTs (O : Ora) (K : PySem.W.Frag) (mg : Str → Option Value) (Wx : L2.WX) (ifs : CEs) : TT := fun σ H Q => ∃ W0 s, Rel K mg W0 s σ H ∧ wpG (evT O ifs s) (fun b s' => ∀ H', Mv s σ H s' σ H' → Rel K mg W0 s' σ H' → Q b H') (EW K mg Wx W0 s σ H)
variable {σ : L2.St} {H : Hp} {a : GS.CE}
theorem cs_yes {Q : Bool → Hp → Prop} (h : tTs O K mg Wx .nil σ H Q) : tYes σ H Q := by
  obtain ⟨W0, s, R, h⟩ := h
  exact h H .refl R
theorem cs_test1 {Q : Bool → Hp → Prop} (h : tTs O K mg Wx (.cons a .nil) σ H Q) : tT O K mg Wx a σ H Q := by
  obtain ⟨W0, s, R, h⟩ := h
  refine ⟨W0, s, R, ?_⟩
  have h : wpG ((ev O a s).bind fun x s => match (x.opd.get s).bind truD with
    | some true => Rs.ok true s
    | some false => .ok false s
    | none => .stuck) _ _ := h
  refine wpG_bind.mpr ((wpG_bind.mp h).mono (fun xv s1 h1 => ?_) fun _ _ h => h)
  split at h1
  · rename_i e; rw [e]; exact h1
  · rename_i e; rw [e]; exact h1
  · exact h1.elim
theorem cs_comp {ow : List Nat} {tg : CT} {it : CI} {ifs : CEs} {e : GS.CE} {Q : VK} (h : tE O K mg Wx (.comp ow tg it ifs e) σ H Q) :
    tLc (tI O K mg Wx it) (tG K mg tg) (tTs O K mg noWx ifs) (tE O K mg noWx e) ow σ H Q := by
  obtain ⟨W0, s, R, h⟩ := h
  have h : wpG ((evI O it s).bind fun xs s0 => if !tgIn ow tg then Rs.stuck else (wipeC ow s0).bind fun _ s =>
    noX ((compL ow tg (fun s => evT O ifs s) (fun s => (ev O e s).bind frz) xs [] s).bind fun acc s' => .ok (RV.own (.lst acc)) (backS s0 s' ow))) _ _ := h
  refine ⟨W0, s, R, (wpG_bind.mp h).mono (fun xs s0 h1 => ?_) fun _ _ h => h⟩
  intro J H1 m0 R0 it D hD
  split at h1
  · exact h1.elim
  · rename_i ht
    have ht : tgIn ow tg = true := by simpa using ht
    obtain ⟨h0, h2⟩ := wpG_wipeC (wpG_bind.mp h1)
    have h3 := wpG_bind.mp (wpG_noX h2)
    obtain ⟨Rw, mw⟩ := R0.wipe h0
    have nD0 : ¬ W0 D := fun z => R0.out D z hD
    have o2 : ∀ a, plus W0 D a → W0 a ∨ H1 a = none := fun a z => z.elim .inl fun z => .inr (z ▸ hD)
    refine ⟨fun i m Hc => i ≤ xs.length ∧ m = xs.length - i ∧ ∃ si acc accV, Hc D = some (.lst accV) ∧ RepA K mg (Wf (plus W0 D) si (wipe σ ow)) Hc acc accV ∧ acc.length ≤ sizeLine ∧ (ow.any fun i => isOwn si[i]?) = false ∧ Rel K mg (plus W0 D) si (wipe σ ow) Hc ∧ Mv s0 σ H1 si (wipe σ ow) Hc ∧
      wpG (compL ow tg (fun s => evT O ifs s) (fun s => (ev O e s).bind frz) (xs.drop i) acc si) (fun acc s' => ∀ v H', PostE K mg W0 s σ H (.own (.lst acc)) (backS s0 s' ow) v H' → Q v H') (fun _ _ => False), ⟨xs.length, Nat.zero_le _, rfl, wipeS s0 ow, [], [], upd_same, .nil, Nat.zero_le _, wiped_own, ?_, ?_, h3⟩, ?_⟩
    · have g := grow_upd (o := .lst []) hD
      refine Rw.grow g (fun a z => z.elim (fun z => (Mv.grow (s := s0) (σ := σ) g).trk a (R0.out a z)) fun z => by rw [z, upd_same]; exact fun z => by cases z) o2
    · exact mw.trans (Mv.grow (grow_upd hD))
    · rintro i m Hc ⟨hi, rfl, si, acc, accV, eD, ra, la, oi, Ri, mi, hw⟩
      have kc : Keep (Wf W0 s0 σ) H1 (Wf (plus W0 D) si (wipe σ ow)) Hc := ⟨fun a u q n => mi.keep a u q fun z => n (.inr z), fun a z => z.elim (fun z => (o2 a z).imp .inl id) fun z => (mi.own a z).imp .inr id⟩
      by_cases hlt : i < xs.length
      · refine .inr ⟨it.go _ _ i kc hlt, fun H' => ∃ si acc accV, H' D = some (.lst accV) ∧ RepA K mg (Wf (plus W0 D) si (wipe σ ow)) H' acc accV ∧ acc.length ≤ sizeLine ∧ (ow.any fun i => isOwn si[i]?) = false ∧ Rel K mg (plus W0 D) si (wipe σ ow) H' ∧ Mv s0 σ H1 si (wipe σ ow) H' ∧
          wpG (compL ow tg (fun s => evT O ifs s) (fun s => (ev O e s).bind frz) (xs.drop (i + 1)) acc si) (fun acc s' => ∀ v H', PostE K mg W0 s σ H (.own (.lst acc)) (backS s0 s' ow) v H' → Q v H') (fun _ _ => False), fun H' ⟨si, z⟩ => ⟨xs.length - (i + 1), by omega, hlt, rfl, si, z⟩, fun x H' y => ?_⟩
        obtain ⟨gy, d, ed, rd⟩ := it.yld _ _ i x H' kc hlt (wf_trk Ri) y
        have ex : xs.drop i = d :: xs.drop (i + 1) := by
          have : xs[i]? = some xs[i] := by simp [hlt]
          rw [this] at ed
          cases ed
          exact List.drop_eq_getElem_cons hlt
        rw [ex] at hw
        have gm : Mv si (wipe σ ow) Hc si (wipe σ ow) H' := Mv.grow gy
        have R' := Ri.grow gy (fun a z => gm.trk a (Ri.out a z)) fun a z => .inl z
        refine ⟨plus W0 D, si, d, R', rd, (wpG_bind.mp hw).mono (fun _ s2 hw σ2 tgo m2 R2 => ?_) fun _ _ z => z⟩
        have eσ : wipe σ2 ow = wipe σ ow := (tgo ow ht).trans wipe_idem
        refine ⟨eσ, plus W0 D, s2, R2, (wpG_bind.mp hw).mono (fun b s3 hw H3 m3 R3 => ?_) fun _ _ z => z.elim⟩
        have m13 : Mv si (wipe σ ow) Hc s3 σ2 H3 := (gm.trans m2).trans m3
        have nDo : ¬ OwnP si (wipe σ ow) D := fun z => (Ri.ownTrk z).2 (.inr rfl)
        cases b with
        | false =>
          dsimp only
          rw [if_neg Bool.false_ne_true]
          obtain ⟨o3, hw⟩ := wpG_wipeC (wpG_bind.mp hw)
          obtain ⟨R4, m4⟩ := R3.wipe o3
          rw [eσ] at R4 m4
          refine ⟨_, acc, accV, m13.keep D _ eD nDo, ra.mv (m13.trans m4).kp, la, wiped_own, R4, (mi.trans m13).trans m4, hw⟩
        | true =>
          dsimp only
          rw [if_pos rfl]
          refine tE_of R3 (wpG_bind.mp (wpG_bind.mp hw)) (fun xv s4 y H4 P4 hw => ?_) fun _ _ z => z.elim
          obtain ⟨dy, s5, e5, hw⟩ := wpG_frz hw
          obtain ⟨R5, m5, ry⟩ := frz_ok P4.rel P4.op e5
          split at hw
          · rename_i hsz
            obtain ⟨o5, hw⟩ := wpG_wipeC (wpG_bind.mp hw)
            obtain ⟨R6, m6⟩ := R5.wipe o5
            rw [eσ] at R6 m6
            have m16 : Mv si (wipe σ ow) Hc (wipeS s5 ow) (wipe σ ow) H4 := ((m13.trans P4.mv).trans m5).trans m6
            have eD4 : H4 D = some (.lst accV) := m16.keep D _ eD nDo
            refine ⟨accV, eD4, by rw [← ra.len]; exact hsz, ?_⟩
            have k7 : Keep (Wf (plus W0 D) (wipeS s5 ow) (wipe σ ow)) H4 (Wf (plus W0 D) (wipeS s5 ow) (wipe σ ow)) (upd H4 D (.lst (accV ++ [y]))) := ⟨fun a u q n => by
              rw [upd_ne (fun z => n (.inl (.inr z)))]
              exact q, fun a z => .inl z⟩
            refine ⟨_, acc ++ [dy], accV ++ [y], upd_same, ((ra.mv m16.kp).append (.cons (ry.mv m6.kp) .nil)).mv k7, ?_, wiped_own, R6.updO (.inr rfl), (mi.trans m16).updN hD, hw⟩
            rw [List.length_append, List.length_singleton]
            exact hsz
          · exact hw.elim
      · have ei : i = xs.length := by omega
        subst ei
        rw [List.drop_length] at hw
        refine .inl ⟨it.stop _ _ _ kc rfl, hw _ _ ?_⟩
        obtain ⟨Rb, mb⟩ := R0.back h0 oi Ri mi o2
        have nb : ¬ OwnP (backS s0 si ow) σ D := fun z => (mb.own D z).elim (fun z => (R0.ownTrk z).1 hD) fun _ => by
          exact (Rb.ownTrk z).2 (.inr rfl)
        refine ⟨m0.trans mb, D, rfl, m0.fresh hD, nD0, nb, Rb, .lst eD (ra.mv ⟨fun _ _ h _ => h, fun a z => ?_⟩) la⟩
        rcases z with z | z
        · exact .inl (.inl z)
        · by_cases q : OwnP si (wipe σ ow) a
          · exact .inl (.inr q)
          · exact absurd z fun ⟨j, z1, z2⟩ => q (by
              by_cases hj : j ∈ ow
              · exfalso
                have hl : si.length = s0.length := by rw [Ri.len, R0.len, wipe_length]
                by_cases q2 : j < si.length
                · rw [backS_in hj q2] at z1
                  have := any_own h0 hj
                  rw [List.getElem?_eq_getElem (by omega)] at z1 this
                  have z1 : isOwn (some s0[j]) = true := z1
                  rw [this] at z1
                  cases z1
                · rw [List.getElem?_eq_none (by rw [backS_len]; omega)] at z1
                  cases z1
              · rw [backS_out hj] at z1
                exact ⟨j, z1, by rw [wipe_out hj]; exact z2⟩)
end
end GS

/-! GM1: comprehensions of any kind and of one or two clauses, by what a turn does behind its tests. -/
namespace GS
open PySem PySem.Spec PyProof.Rows L2

/-- a step ahead of the rest k; the block's own slots vs may change -/
abbrev TAc := L2.St → Hp → (Hp → Prop) → Prop
structure PAc (X : Cx) (vs : List Nat) (act : Sem PySem.Fin → Sem PySem.Fin) (t : TAc) : Prop where
  run : ∀ (pins : List (Addr × Obj)) (s : Shared) (σ : L2.St) (H : Hp) (Q : Hp → Prop) (k : Sem PySem.Fin) (R : PySem.Fin → Shared → Prop) (E : Value → Shared → Prop), Inv X pins σ H s → t σ H Q →
    (∀ σ' H' s', wipe σ' vs = wipe σ vs → Inv X pins σ' H' s' → Q H' → wpAny (model X.prog X.w) X.A k R E s') → wpAny (model X.prog X.w) X.A (act k) R E s
/-- a clause's tests as one step -/
def testS (ifs : List Expr) (env : Env) : Sem Bool := forIn ifs true fun c b => if b = true then (isTrue c env (eval c env) >>= fun k => pure (.yield k)) else pure (.yield b)
/-- a clause's turn: act is what stands behind its tests -/
def turnS (p : Pos) (t : Expr) (ifs : List Expr) (it : Value) (env : Env) (act : Sem PySem.Fin → Sem PySem.Fin) (nxt : Sem PySem.Fin) : Sem PySem.Fin :=
  standAt p >>= fun _ => pyNext it >>= fun r => match r with
    | none => pure (.done .next)
    | some v => letOwnedTupleGo t it v >>= fun _ => assign t env v >>= fun _ => testS ifs env >>= fun b => if b = true then act nxt else nxt
/-- the step to a second clause -/
def intoS (e iter : Expr) (acc : Value) (env : Env) (k : Sem PySem.Fin) : Sem PySem.Fin :=
  eval iter env >>= fun x => standAt iter.pos >>= fun _ => foldedSetIterable iter env x >>= fun x => holding [x] (pyIter x) >>= fun it => runOwn (.compStart e 1 it acc env) env >>= fun _ => k
def emitL (elt : Expr) (acc : Value) (env : Env) (k : Sem PySem.Fin) : Sem PySem.Fin := (eval elt env >>= fun x => call (.builtin "list.append") [acc, x] >>= fun _ => pure ()) >>= fun _ => k
def emitD (a b : Expr) (acc : Value) (env : Env) (k : Sem PySem.Fin) : Sem PySem.Fin :=
  (eval a env >>= fun u => holding [u] (eval b env) >>= fun w => match acc with
    | .ref d => standAt ⟨a.pos.line, a.pos.col, b.pos.endLine, b.pos.endCol⟩ >>= fun _ => holding [u, w] (dictSet d u w)
    | _ => unsupported "internal:dictcomp") >>= fun _ => k
section
variable {elt kx vx t0 i0 t1 i1 : Expr} {ifs0 ifs1 : List Expr} {scope : Scope} {pos : Pos} {it acc : Value} {env : Env}
theorem turn_L20 : compTurn (.ListComp elt [⟨t0, i0, ifs0, 0⟩, ⟨t1, i1, ifs1, 0⟩] scope pos) 0 it acc env =
    turnS i0.pos t0 ifs0 it env (intoS (.ListComp elt [⟨t0, i0, ifs0, 0⟩, ⟨t1, i1, ifs1, 0⟩] scope pos) i1 acc env) (again (.compLoop (.ListComp elt [⟨t0, i0, ifs0, 0⟩, ⟨t1, i1, ifs1, 0⟩] scope pos) 0 it acc env)) := by rfl
theorem turn_L21 : compTurn (.ListComp elt [⟨t0, i0, ifs0, 0⟩, ⟨t1, i1, ifs1, 0⟩] scope pos) 1 it acc env =
    turnS i1.pos t1 ifs1 it env (emitL elt acc env) (again (.compLoop (.ListComp elt [⟨t0, i0, ifs0, 0⟩, ⟨t1, i1, ifs1, 0⟩] scope pos) 1 it acc env)) := by rfl
theorem turn_D1 : compTurn (.DictComp kx vx [⟨t0, i0, ifs0, 0⟩] scope pos) 0 it acc env =
    turnS i0.pos t0 ifs0 it env (emitD kx vx acc env) (again (.compLoop (.DictComp kx vx [⟨t0, i0, ifs0, 0⟩] scope pos) 0 it acc env)) := by rfl
theorem turn_D20 : compTurn (.DictComp kx vx [⟨t0, i0, ifs0, 0⟩, ⟨t1, i1, ifs1, 0⟩] scope pos) 0 it acc env =
    turnS i0.pos t0 ifs0 it env (intoS (.DictComp kx vx [⟨t0, i0, ifs0, 0⟩, ⟨t1, i1, ifs1, 0⟩] scope pos) i1 acc env) (again (.compLoop (.DictComp kx vx [⟨t0, i0, ifs0, 0⟩, ⟨t1, i1, ifs1, 0⟩] scope pos) 0 it acc env)) := by rfl
theorem turn_D21 : compTurn (.DictComp kx vx [⟨t0, i0, ifs0, 0⟩, ⟨t1, i1, ifs1, 0⟩] scope pos) 1 it acc env =
    turnS i1.pos t1 ifs1 it env (emitD kx vx acc env) (again (.compLoop (.DictComp kx vx [⟨t0, i0, ifs0, 0⟩, ⟨t1, i1, ifs1, 0⟩] scope pos) 1 it acc env)) := by rfl
end
/-! ### a clause's loop -/
/-- what a clause's turns are to reach: W by the turn and a measure; End behind the last -/
def tTurns (J : It) (g : TG) (tt : TT) (ta : TAc) (vs : List Nat) (τ : L2.St) (W : Nat → Nat → Hp → Prop) (End : Hp → Prop) : Prop := ∀ i m H, W i m H →
  (J.stop i H ∧ End H) ∨ (J.go i H ∧ ∃ Nx : Hp → Prop, (∀ H', Nx H' → ∃ m', m' < m ∧ W (i + 1) m' H') ∧
    ∀ x H', J.yld i H x H' → g x τ H' fun σ2 H2 => wipe σ2 vs = τ ∧ tt σ2 H2 fun b H3 => if b = true then ta σ2 H3 Nx else Nx H3)
/-- a step that no error leaves -/
theorem safe {α : Type} {M : Model} {A : Around} {t : Sem α} {P Q : α → Shared → Prop} {E : Value → Shared → Prop} {s : Shared} (h : wpAny M A t P (fun _ _ => False) s) (q : ∀ a s, P a s → Q a s) : wpAny M A t Q E s :=
  wpAny_mono h q fun _ _ z => z.elim
section
variable {X : Cx} {e tg : Expr} {ifs : List Expr} {d : Nat} {acc : Value} {J : It} {it : Addr} {fp : List Addr} {tn : Nat → Heap → Prop} {g : TG} {tt : TT} {ta : TAc} {vs : List Nat} {τ : L2.St} {W : Nat → Nat → Hp → Prop} {End : Hp → Prop}
  {pins : List (Addr × Obj)} {R : Result → Shared → Prop} {m0 : Nat} {s : Shared} {H : Hp} {p : Pos} {act : Sem PySem.Fin → Sem PySem.Fin}
theorem loop_ok (calm : X.calm = true) (quietX : X.xe = fun _ _ => False) (T : Turn X.prog X.w X.K tg J fp it tn) (same : wipe τ vs = τ)
    (den : ∀ (E : Value → Shared → Prop) (Q : PySem.Fin → Shared → Prop) (s : Shared), wpAny (model X.prog X.w) (X.A.under (.compLoop e d (.ref it) acc X.env)) (turnS p tg ifs (.ref it) X.env act (again (.compLoop e d (.ref it) acc X.env))) Q (notedBy (model X.prog X.w) X.A X.env E) s →
      wpAny (model X.prog X.w) (X.A.under (.compLoop e d (.ref it) acc X.env)) ((model X.prog X.w).den (.compLoop e d (.ref it) acc X.env)) Q E s)
    (und : X.A.under (.compLoop e d (.ref it) acc X.env) = X.A) (quiet : (Code.compLoop e d (.ref it) acc X.env).quiet = true)
    (stat : ∀ {σ' : L2.St} {H' : Hp} {s' : Shared}, Inv X pins σ' H' s' → (∀ b ∈ fp, H' b = none) → ∀ b ∈ fp, FpOk X pins H' b)
    (pg : PG X tg g) (pt : PTs X ifs tt) (pa : PAc X vs act ta) (turns : tTurns J g tt ta vs τ W End)
    (I : Inv X pins τ H s) (st : tn 0 s.heap) (off : ∀ b ∈ fp, H b = none) (w : W 0 m0 H)
    (out : ∀ s' H', Inv X pins τ H' s' → End H' → R (.ok .next) s') : codeAny (model X.prog X.w) X.A (.compLoop e d (.ref it) acc X.env) R s := by
  refine codeAny_loop quiet (fun n s' => ∃ i H', Inv X pins τ H' s' ∧ tn i s'.heap ∧ (∀ b ∈ fp, H' b = none) ∧ W i n H') (fun n s1 hI => den _ _ _ ?_) m0 ⟨0, H, I, st, off, w⟩
  obtain ⟨i, H1, I1, st1, off1, w1⟩ := hI
  rw [und]
  refine wpAny_bind (wpAny_standAt (wpAny_bind ?_))
  rcases turns i n H1 w1 with ⟨stop, fin⟩ | ⟨go, Nx, less, step⟩
  · refine safe (T.done X rfl rfl rfl calm i pins s1 τ H1 (fun _ _ => False) I1 (stat I1 off1) st1 stop) fun r s2 ⟨none', I2⟩ => ?_
    subst none'
    exact wpAny_pure (out s2 H1 I2 fin)
  · refine safe (T.item X rfl rfl rfl calm i pins s1 τ H1 (fun _ _ => False) I1 (stat I1 off1) st1 go) fun r s2 ⟨u, some', h2⟩ => ?_
    subst some'
    refine wpAny_bind (safe h2 fun _ s3 ⟨x, H3, I3, rx, y, st3, off3⟩ => ?_)
    have pinned := I3.pinned (stat I3 off3) (T.obj _ _ st3)
    have noE : ∀ {α : Type} {t : Sem α} {P : α → Shared → Prop} {s : Shared}, wpAny (model X.prog X.w) X.A t P X.xe s → wpAny (model X.prog X.w) X.A t P (fun _ _ => False) s := fun h => by rw [quietX] at h; exact h
    -- behind the turn
    have next : ∀ σ' H' s', wipe σ' vs = τ → Inv X (pins ++ pinsAt fp s3.heap) σ' H' s' → Nx H' → ∃ m, m < n ∧ ∃ i H', Inv X pins τ H' s' ∧ tn i s'.heap ∧ (∀ b ∈ fp, H' b = none) ∧ W i m H' := fun σ' H' s' hw I' nx => by
      obtain ⟨m', lt, w'⟩ := less H' nx
      have stay : ∀ b ∈ fp, ∀ o, s3.heap.get? b = some o → s'.heap.get? b = some o ∧ H' b = none := fun b hb o at' => by
        obtain ⟨z1, z2, _⟩ := I'.pin (b, o) (List.mem_append_right _ (List.mem_append_right _ (mem_pinsAt hb at')))
        exact ⟨z1, z2⟩
      refine ⟨m', lt, i + 1, H', (I'.unpinned (pins := pins)).weak ?_ (fun j v at' => ?_), T.keep _ _ _ st3 fun b hb o at' => (stay b hb o at').1, fun b hb => ?_, w'⟩
      · rw [← hw, wipe_length]
      · rw [← hw] at at'
        exact (wipe_some at').1
      · obtain ⟨o, at', _⟩ := T.obj _ _ st3 b hb
        exact (stay b hb o at').2
    refine wpAny_bind (safe (noE (pg.run _ s3 _ H3 x u _ pinned rx (step x H3 y))) fun _ s4 ⟨σ4, H4, I4, hw4, q4⟩ => ?_)
    refine wpAny_bind (safe (noE (pt.run _ s4 σ4 H4 _ I4 q4)) fun b s5 ⟨H5, I5, q5⟩ => ?_)
    cases b with
    | false => exact wpAny_pure ⟨rfl, next σ4 H5 s5 hw4 I5 q5⟩
    | true => exact pa.run _ s5 σ4 H5 Nx _ _ _ I5 q5 fun σ6 H6 s6 hw6 I6 nx => wpAny_pure ⟨rfl, next σ6 H6 s6 (hw6.trans hw4) I6 nx⟩
end

/-! ### the whole of a comprehension -/
/-- how a clause is run: its turn, its start -/
structure ClauseDen (e : Expr) (d : Nat) (p : Pos) (tg : Expr) (ifs : List Expr) (act : Value → Env → Sem PySem.Fin → Sem PySem.Fin) : Prop where
  turn : ∀ {P : Program} {w : World} {A : Around} {env : Env} {it acc : Value} {E : Value → Shared → Prop} {Q : PySem.Fin → Shared → Prop} {s : Shared},
    wpAny (model P w) (A.under (.compLoop e d it acc env)) (turnS p tg ifs it env (act acc env) (again (.compLoop e d it acc env))) Q (notedBy (model P w) A env E) s →
    wpAny (model P w) (A.under (.compLoop e d it acc env)) ((model P w).den (.compLoop e d it acc env)) Q E s
  und : ∀ {A : Around} {env : Env} {it acc : Value}, A.under (.compLoop e d it acc env) = A
  quiet : ∀ {env : Env} {it acc : Value}, (Code.compLoop e d it acc env).quiet = true
  start : ∀ {P : Program} {w : World} {A : Around} {env : Env} {it acc : Value} {R : Result → Shared → Prop} {s : Shared},
    codeAny (model P w) A (.compLoop e d it acc env) R s →
    wpAny (model P w) A (pyIter it) (fun it' s' => codeAny (model P w) A (.compLoop e d it' acc env) R s') (notedBy (model P w) A env fun x s' => R (.error x) s') s →
    codeAny (model P w) A (.compStart e d it acc env) R s
section
variable {elt kx vx t0 i0 t1 i1 : Expr} {ifs0 ifs1 : List Expr} {scope : Scope} {pos : Pos}
theorem start_gen {e : Expr} {d : Nat} {P : Program} {w : World} {A : Around} {env : Env} {it acc : Value} {R : Result → Shared → Prop} {s : Shared} {g : Comprehension} (hc : (clausesOf e)[d]? = some g) (ha : g.is_async = 0)
    (frame : (Code.compStart e d it acc env).isFrame = false) (und : A.under (.compStart e d it acc env) = A) (q : (Code.compLoop e d it acc env).quiet = true) (q2 : ∀ it', (Code.compLoop e d it' acc env).quiet = true)
    (h0 : codeAny (model P w) A (.compLoop e d it acc env) R s)
    (h : wpAny (model P w) A (pyIter it) (fun it' s' => codeAny (model P w) A (.compLoop e d it' acc env) R s') (notedBy (model P w) A env fun x s' => R (.error x) s') s) :
    codeAny (model P w) A (.compStart e d it acc env) R s := by
  refine codeAny_of_tree ?_
  rw [und]
  have den : (model P w).den (.compStart e d it acc env) = (compStart e d it acc env).onRaise (fun x => do noteFrame x env; standAt theWindowsPlace) := by
    show (if (Code.compStart e d it acc env).isFrame then _ else _) = _
    rw [frame]
    rfl
  rw [den]
  refine wpAny_notedAt ?_
  unfold compStart
  rw [hc]
  simp only [Option.elim, ha]
  refine wpAny_bind (wpAny_askSetting (wpAny_ite ?_))
  split
  · exact wpAny_bind (wpAny_pure (wpAny_pure ⟨q, h0⟩))
  · refine wpAny_bind (wpAny_rule ?_)
    refine wpAny_bind (wpAny_standAt (wpAny_bind (wpAny_mono h (fun it' s' z => wpAny_pure ⟨q2 it', z⟩) fun _ _ z => z)))

theorem den_of {e : Expr} {d : Nat} {p : Pos} {tg : Expr} {ifs : List Expr} {act : Value → Env → Sem PySem.Fin → Sem PySem.Fin} {g : Comprehension} (hc : (clausesOf e)[d]? = some g) (ha : g.is_async = 0)
    (fr : ∀ it acc env, (Code.compLoop e d it acc env).isFrame = false) (fr2 : ∀ it acc env, (Code.compStart e d it acc env).isFrame = false)
    (und : ∀ (A : Around) it acc env, A.under (.compLoop e d it acc env) = A) (und2 : ∀ (A : Around) it acc env, A.under (.compStart e d it acc env) = A) (q : ∀ it acc env, (Code.compLoop e d it acc env).quiet = true)
    (tn : ∀ it acc env, compTurn e d it acc env = turnS p tg ifs it env (act acc env) (again (.compLoop e d it acc env))) : ClauseDen e d p tg ifs act where
  turn := fun {P w A env it acc E Q s} h => by
    have den : (model P w).den (.compLoop e d it acc env) = (compTurn e d it acc env).onRaise (fun x => do noteFrame x env; theTreesLotGoes x) := by
      show (if (Code.compLoop e d it acc env).isFrame then _ else _) = _
      rw [fr]
      rfl
    rw [den]
    refine wpAny_noted ?_
    rw [tn, und A it acc env]
    rw [und A it acc env] at h
    exact h
  und := und _ _ _ _
  quiet := q _ _ _
  start := fun h0 h => start_gen hc ha (fr2 _ _ _) (und2 _ _ _ _) (q _ _ _) (fun _ => q _ _ _) h0 h
theorem den_L20 : ClauseDen (.ListComp elt [⟨t0, i0, ifs0, 0⟩, ⟨t1, i1, ifs1, 0⟩] scope pos) 0 i0.pos t0 ifs0 (intoS (.ListComp elt [⟨t0, i0, ifs0, 0⟩, ⟨t1, i1, ifs1, 0⟩] scope pos) i1) :=
  den_of rfl rfl (fun _ _ _ => rfl) (fun _ _ _ => rfl) (fun _ _ _ _ => rfl) (fun _ _ _ _ => rfl) (fun _ _ _ => rfl) fun _ _ _ => turn_L20
theorem den_L21 : ClauseDen (.ListComp elt [⟨t0, i0, ifs0, 0⟩, ⟨t1, i1, ifs1, 0⟩] scope pos) 1 i1.pos t1 ifs1 (emitL elt) :=
  den_of rfl rfl (fun _ _ _ => rfl) (fun _ _ _ => rfl) (fun _ _ _ _ => rfl) (fun _ _ _ _ => rfl) (fun _ _ _ => rfl) fun _ _ _ => turn_L21
theorem den_D1 : ClauseDen (.DictComp kx vx [⟨t0, i0, ifs0, 0⟩] scope pos) 0 i0.pos t0 ifs0 (emitD kx vx) :=
  den_of rfl rfl (fun _ _ _ => rfl) (fun _ _ _ => rfl) (fun _ _ _ _ => rfl) (fun _ _ _ _ => rfl) (fun _ _ _ => rfl) fun _ _ _ => turn_D1
theorem den_D20 : ClauseDen (.DictComp kx vx [⟨t0, i0, ifs0, 0⟩, ⟨t1, i1, ifs1, 0⟩] scope pos) 0 i0.pos t0 ifs0 (intoS (.DictComp kx vx [⟨t0, i0, ifs0, 0⟩, ⟨t1, i1, ifs1, 0⟩] scope pos) i1) :=
  den_of rfl rfl (fun _ _ _ => rfl) (fun _ _ _ => rfl) (fun _ _ _ _ => rfl) (fun _ _ _ _ => rfl) (fun _ _ _ => rfl) fun _ _ _ => turn_D20
theorem den_D21 : ClauseDen (.DictComp kx vx [⟨t0, i0, ifs0, 0⟩, ⟨t1, i1, ifs1, 0⟩] scope pos) 1 i1.pos t1 ifs1 (emitD kx vx) :=
  den_of rfl rfl (fun _ _ _ => rfl) (fun _ _ _ => rfl) (fun _ _ _ _ => rfl) (fun _ _ _ _ => rfl) (fun _ _ _ => rfl) fun _ _ _ => turn_D21
end
/-! ### what is done behind the tests -/
def tEmL (te : TE) (D : Addr) : TAc := fun σ H Q => te σ H fun y H1 => ∃ acc, H1 D = some (.lst acc) ∧ acc.length < sizeLine ∧ Q (upd H1 D (.lst (acc ++ [y])))
def tEmD (tk tv : TE) (D : Addr) : TAc := fun σ H Q => tk σ H fun y H1 => tv σ H1 fun z H2 => ∃ kvs k, y = kV k ∧ H2 D = some (.dK kvs) ∧ kvs.length < sizeLine ∧ Q (upd H2 D (.dK (putK kvs k z)))
theorem wipe_less {vs vs1 : List Nat} {τ : L2.St} (sub : ∀ i ∈ vs1, i ∈ vs) : wipe (wipe τ vs1) vs = wipe τ vs := by
  apply List.ext_getElem?
  intro j
  by_cases hj : j ∈ vs
  · have none' : ∀ {ρ : L2.St}, (wipe ρ vs)[j]? = if j < ρ.length then some none else none := fun {ρ} => by
      split
      · rename_i hl
        have hl' : j < (wipe ρ vs).length := by rw [wipe_length]; exact hl
        rw [List.getElem?_eq_getElem hl']
        congr 1
        cases q : (wipe ρ vs)[j] with
        | none => rfl
        | some x => exact absurd (by rw [List.getElem?_eq_getElem hl', q]) (wipe_inn hj x)
      · rename_i hl
        exact List.getElem?_eq_none (by rw [wipe_length]; omega)
    rw [none', none', wipe_length]
  · rw [wipe_out hj, wipe_out hj, wipe_out fun z => hj (sub j z)]
/-- a second clause's loop -/
def tInto (wi : TI) (g : TG) (tt : TT) (ta : TAc) (vs1 : List Nat) : TAc := fun σ H Q => wi σ H fun J H1 => ∃ W : Nat → Nat → Hp → Prop, (∃ m, W 0 m H1) ∧ tTurns J g tt ta vs1 (wipe σ vs1) W Q
section
variable {X : Cx} {vs : List Nat} {D : Addr}
theorem pac_emitL {elt : Expr} {te : TE} (quietX : X.xe = fun _ _ => False) (h : L2.PE X elt te) : PAc X vs (emitL elt (.ref D) X.env) (tEmL te D) := by
  refine ⟨fun pins s σ H Q k R E I q go => ?_⟩
  have run := h.run pins s σ H _ I q
  rw [quietX] at run
  refine wpAny_bind (wpAny_bind (safe run fun u s1 ⟨y, H1, I1, ry, acc, at1, fit, q1⟩ => wpAny_bind ?_))
  exact app_ok I1 at1 fit ry fun s2 I2 => wpAny_pure (go σ _ s2 rfl I2 q1)
theorem pac_emitD {kx vx : Expr} {tk tv : TE} (quietX : X.xe = fun _ _ => False) (hk : L2.PE X kx tk) (hv : L2.PE X vx tv) : PAc X vs (emitD kx vx (.ref D) X.env) (tEmD tk tv D) := by
  refine ⟨fun pins s σ H Q k R E I q go => ?_⟩
  have run := hk.run pins s σ H _ I q
  rw [quietX] at run
  refine wpAny_bind (wpAny_bind (safe run fun u s1 ⟨y, H1, I1, ry, q1⟩ => wpAny_bind (wpAny_holding ?_)))
  have run2 := hv.run pins s1 σ H1 _ I1 q1
  rw [quietX] at run2
  refine safe run2 fun u2 s2 ⟨z, H2, I2, rz, kvs, key, ek, at2, fit, q2⟩ => ?_
  subst ek
  exact wpAny_bind (wpAny_standAt (wpAny_holding (d_dictSet I2 at2 fit ry rz fun s3 I3 => go σ _ s3 rfl I3 q2)))
theorem pac_into {e iter tg : Expr} {ifs : List Expr} {p : Pos} {wi : TI} {g : TG} {tt : TT} {ta : TAc} {vs1 : List Nat} {act : Value → Env → Sem PySem.Fin → Sem PySem.Fin} (calm : X.calm = true) (quietX : X.xe = fun _ _ => False)
    (cd : ClauseDen e 1 p tg ifs act) (hi : L2.PI X tg iter wi) (hs : ∀ x, foldedSetIterable iter X.env x = pure x) (hg : L2.PG X tg g) (ht : PTs X ifs tt) (ha : PAc X vs1 (act (.ref D) X.env) ta) (sub : ∀ i ∈ vs1, i ∈ vs) :
    PAc X vs (intoS e iter (.ref D) X.env) (tInto wi g tt ta vs1) := by
  refine ⟨fun pins s σ H Q k R E I q go => ?_⟩
  have run := hi.run pins s σ H _ I q
  rw [quietX] at run
  refine wpAny_bind (safe run fun u s1 h1 => wpAny_bind (wpAny_standAt (wpAny_bind (wpAny_of_eq (hs u) (wpAny_bind (wpAny_holding (safe h1 fun itv s2 h2 => ?_)))))))
  obtain ⟨it, fp, tn, J, H2, isIt, I2, T, st2, f2, W, ⟨m0, w0⟩, turns⟩ := h2
  subst isIt
  refine wpAny_bind (wpAny_runOwn ?_)
  rw [Around.mark_none]
  have less : ∀ {τ : L2.St}, wipe (wipe τ vs1) vs = wipe τ vs := fun {τ} => wipe_less sub
  have I3 : Inv X pins (wipe σ vs1) H2 s2 := I2.weak (wipe_length _ _) fun j v at' => (wipe_some at').1
  have stat : ∀ {σ' : L2.St} {H' : Hp} {s' : Shared}, Inv X pins σ' H' s' → (∀ b ∈ fp, H' b = none) → ∀ b ∈ fp, FpOk X pins H' b := fun {_ H' _} _ off b hb => ⟨off b hb, (f2 b hb).2⟩
  have loop : codeAny (model X.prog X.w) X.A (.compLoop e 1 (.ref it) (.ref D) X.env) (fun r s' => match r with
      | .ok f => wpAny (model X.prog X.w) X.A k R E s'
      | .error e => cameBackBy (model X.prog X.w) X.A X.env E e s') s2 :=
    loop_ok (vs := vs1) calm quietX T wipe_idem (fun _ _ _ z => cd.turn z) cd.und cd.quiet stat hg ht ha turns I3 st2 (fun b hb => (f2 b hb).1) w0
      fun s' H' I' q' => go _ H' s' less I' q'
  exact cd.start loop (T.self X.A 0 s2 _ _ st2 loop)
end

/-! ### the whole -/
/-- a new, empty thing to fill -/
structure NewAcc (P : Program) (w : World) (newAcc : Sem Value) (o : HO) (ob : Obj) : Prop where
  run : ∀ {M : Model} {A : Around} {E : Value → Shared → Prop} {Q : Value → Shared → Prop} {s : Shared}, Q (.ref s.heap.objs.size) { s with heap := s.heap.push ob } → wpAny M A newAcc Q E s
  ok : ∀ {H : Hp} (h : Heap), sysModules < h.objs.size → ObjOk P w H (h.push ob) h.objs.size o
theorem new_lst {P : Program} {w : World} : NewAcc P w (newList []) (.lst []) { cls := .type "list", data := .seq ([] : List Value).toArray } where
  run := fun h => wpAny_newObj_type h (by show 0 ≤ sizeLine; decide)
  ok := fun h _ => ⟨Nat.zero_le _, [], 0, .nil, Heap.get?_push_size _ rfl⟩
theorem new_dic {P : Program} {w : World} : NewAcc P w newDict (.dK []) { cls := .type "dict", data := .dict #[] } where
  run := fun h => wpAny_newObj_type h
  ok := fun h hb => dk_empty h hb
def tGen (o : HO) (wi : TI) (g : TG) (tt : TT) (ta : Addr → TAc) (vs : List Nat) : TE := fun σ H Q => wi σ H fun J H1 => ∀ D, H1 D = none → ∃ W : Nat → Nat → Hp → Prop, (∃ m, W 0 m (upd H1 D o)) ∧ tTurns J g tt (ta D) vs (wipe σ vs) W (fun H2 => Q (.ref D) H2)
/-- what is known of a comprehension's parts -/
structure CompParts (X : Cx) (e : Expr) (scope : Scope) (newAcc : Sem Value) (o : HO) (own : List (Str × Nat)) (wi : TI) (g : TG) (tt : TT) (ta : Addr → TAc) : Prop where
  ex : ∃ (tg iter : Expr) (ifs : List Expr) (gs : List Comprehension) (act : Value → Env → Sem PySem.Fin → Sem PySem.Fin) (p : Pos) (ob : Obj), clausesOf e = ⟨tg, iter, ifs, 0⟩ :: gs ∧ NewAcc X.prog X.w newAcc o ob ∧ ClauseDen e 0 p tg ifs act ∧ L2.PI X tg iter wi ∧ (∀ x, foldedSetIterable iter X.env x = pure x) ∧
    (∀ (s : Shared) (H : Hp) (C : Addr) (cl : List (Str × Addr)) (fp : List Addr), L2.PG (X.blk s H scope (compEnvC scope cl C X.env) fp) tg g ∧ PTs (X.blk s H scope (compEnvC scope cl C X.env) fp) ifs tt ∧
      ∀ D, PAc (X.blk s H scope (compEnvC scope cl C X.env) fp) (own.map (·.2)) (act (.ref D) (compEnvC scope cl C X.env)) (ta D)) ∧ firstIter (clausesOf e) X.env = eval iter X.env ∧ firstAsync (clausesOf e) = false
section
variable {X : Cx} {e : Expr} {scope : Scope} {newAcc : Sem Value} {o : HO} {own : List (Str × Nat)} {wi : TI} {g : TG} {tt : TT} {ta : Addr → TAc} {pins : List (Addr × Obj)} {σ : L2.St} {H : Hp} {s : Shared}
theorem blk_run {use : Option (Value → Sem Unit)} {Qf : Value → Shared → Prop} {Q : VK} {pos' : Pos} (calm : X.calm = true) (hN : X.N.Nodup) (I : Inv X pins σ H s) (bk : BlkOk X.N X.env.scope scope own) (c : CompParts X e scope newAcc o own wi g tt ta)
    (h : tGen o wi g tt ta (own.map (·.2)) σ H Q)
    (fin : ∀ D C s' m H', Inv X pins σ H' s' → Q (.ref D) H' → s'.heap.Ns C m → FpOk X pins H' C → compPost (model X.prog X.w) X.A X.xe use Qf (.ref D) C (.ok .next) s') :
    wpAny (model X.prog X.w) X.A (comprehension e scope X.env pos' newAcc (firstAsync (clausesOf e)) (firstIter (clausesOf e) X.env) use) Qf X.xe s := by
  obtain ⟨tg, iter, ifs, gs, act, p, ob, cl, na, cd, hi, hs, parts, fi, fa⟩ := c.ex
  rw [fi, fa]
  have has : ∀ y ∈ scope.names, y.2 = .free → ∃ c, X.env.cells.lookup y.1 = some c := fun y hy isF => (bk.free y hy isF).elim (fun k => I.ok.has _ (.inl k)) fun k => I.ok.has _ (.inr k)
  refine wpAny_comprehension_free cl hs (closure_ok has) bk.kind (fun y hy isL => (bk.uniq y hy).trans (congrArg some isL)) (thn (hi.run pins s σ H _ I h) fun xv s1 hx => thn hx fun itv s2 h2 => na.run (newEnv_comp ?_))
  obtain ⟨it, fp, tn, J, H2, isIt, I2, T, st2, f2, q⟩ := h2
  subst isIt
  have fresh : H2 s2.heap.objs.size = none := I2.hok.fresh (Nat.le_refl _)
  obtain ⟨W, ⟨m0, w0⟩, turns⟩ := q _ fresh
  generalize hD : s2.heap.objs.size = D at fresh w0 turns ⊢
  -- the thing to fill is there
  have kept : ∀ b u, s2.heap.get? b = some u → (s2.heap.push ob).get? b = some u := fun b u at' => Heap.get?_push_of_some _ at'
  have I3 : Inv X pins σ (upd H2 D o) { s2 with heap := s2.heap.push ob } := I2.laid (t' := s2.toks) kept (Nat.le_of_eq hD) (hD ▸ na.ok s2.heap I2.big)
  have young : ∀ b ∈ fp, b < s2.heap.objs.size := fun b hb => by
    obtain ⟨u, at', _⟩ := T.obj _ _ st2 b hb
    exact Heap.lt_size at'
  have off3 : ∀ b ∈ fp, upd H2 D o b = none := fun b hb => by
    rw [upd_ne (Nat.ne_of_lt (hD ▸ young b hb))]
    exact (f2 b hb).1
  have f3 : ∀ b ∈ fp, FpOk X pins (upd H2 D o) b ∧ b < (s2.heap.push ob).objs.size := fun b hb => ⟨⟨off3 b hb, (f2 b hb).2⟩, by rw [Heap.size_push]; exact Nat.lt_succ_of_lt (young b hb)⟩
  have I4 := block_start I3 bk hN f3
  generalize hs3 : ({ s2 with heap := s2.heap.push ob } : Shared) = s3 at I3 I4 ⊢
  have e3 : s3.heap = s2.heap.push ob := by rw [← hs3]
  have f3' : ∀ b ∈ fp, FpOk X pins (upd H2 D o) b ∧ b < s3.heap.objs.size := by rw [e3]; exact f3
  have sizeD : s2.heap.objs.size = D := hD
  obtain ⟨pg, pt, pa⟩ := parts s3 (upd H2 D o) s3.heap.objs.size (cellsFrom (s3.heap.objs.size + 1) scope.names (cloFrom X.env.cells scope.names [])) fp
  have pa := pa D
  show codeAny _ _ (.compStart e 0 (.ref it) (.ref D) (compEnvC scope (cellsFrom (s3.heap.objs.size + 1) scope.names (cloFrom X.env.cells scope.names [])) s3.heap.objs.size X.env)) (compPost (model X.prog X.w) X.A X.xe use Qf (.ref D) s3.heap.objs.size) { s3 with heap := pushCells (s3.heap.push { cls := .type "dict", data := .dict #[] }) scope.names }
  generalize hce : compEnvC scope (cellsFrom (s3.heap.objs.size + 1) scope.names (cloFrom X.env.cells scope.names [])) s3.heap.objs.size X.env = ce at I4 pg pt pa ⊢
  have locC : ce.locals = s3.heap.objs.size := by subst hce; rfl
  generalize hs4 : ({ s3 with heap := pushCells (s3.heap.push { cls := .type "dict", data := .dict #[] }) scope.names } : Shared) = s4 at I4 ⊢
  have st4 : tn 0 s4.heap := T.keep _ _ _ st2 fun b _ u at' => by
    rw [← hs4]
    exact pushCells_keeps _ _ _ _ (Heap.get?_push_of_some _ (by rw [e3]; exact kept b u at'))
  generalize hH3 : upd H2 D o = H3 at I3 I4 pg pt pa w0 off3 f3'
  have stat : ∀ {σ' : L2.St} {H' : Hp} {s' : Shared}, Inv (X.blk s3 H3 scope ce fp) [] σ' H' s' → (∀ b ∈ fp, H' b = none) → ∀ b ∈ fp, FpOk (X.blk s3 H3 scope ce fp) [] H' b := fun {_ H' _} I' off b hb =>
    ⟨off b hb, (I'.ok.exf b hb).1, I'.ok.exfs b hb, .inl hb, fun x c at' => (I'.ok.exf b hb).2 x c at', fun q hq => absurd (show q ∈ ([] : List (Addr × Obj)) ++ [] from hq) (by simp)⟩
  have loop : codeAny (model X.prog X.w) X.A (.compLoop e 0 (.ref it) (.ref D) ce) (compPost (model X.prog X.w) X.A X.xe use Qf (.ref D) s3.heap.objs.size) s4 :=
    loop_ok (X := X.blk s3 H3 scope ce fp) (vs := own.map (·.2)) calm rfl T wipe_idem (fun _ _ _ z => cd.turn z) cd.und cd.quiet stat pg pt pa turns I4 st4 off3 w0 fun s' H' I' q' => by
      have back : Inv X pins σ H' s' := I3.call' (ch := fp) I'.os I'.base I'.hok I'.bare fun b hb => ⟨(f3' b hb).1.2.2.2.1, (f3' b hb).1.2.1, (f3' b hb).1.2.2.2.2.1, (f3' b hb).1.2.2.2.2.2⟩
      obtain ⟨m, isNs, _⟩ := I'.loc
      have isNs : s'.heap.Ns ce.locals m := isNs
      have off : H' ce.locals = none := I'.free
      rw [locC] at isNs off
      exact fin D s3.heap.objs.size s' m H' back q' isNs (I3.fpOk (Nat.le_refl _) off)
  exact cd.start loop (T.self X.A 0 s4 _ _ st4 loop)
/-- as a value -/
theorem pe_gen {pos' : Pos} (calm : X.calm = true) (hN : X.N.Nodup) (bk : BlkOk X.N X.env.scope scope own) (c : CompParts X e scope newAcc o own wi g tt ta)
    (ev : eval e X.env = comprehension e scope X.env pos' newAcc (firstAsync (clausesOf e)) (firstIter (clausesOf e) X.env)) : L2.PE X e (tGen o wi g tt ta (own.map (·.2))) := by
  refine ⟨fun pins s σ H Q I h => ?_⟩
  rw [ev]
  refine blk_run (use := none) calm hN I bk c h fun D C s' m H' I' q isNs fp => ⟨m, isNs, fun h2 sb => ?_⟩
  obtain ⟨n1, n2, _, n4, n5, n6⟩ := fp
  exact ⟨.ref D, H', I'.turned (t' := s'.toks) (fun b u hb at' => (sb.2 b hb).trans at') n1 n2 n4 n5 n6, rfl, q⟩
/-- given to a name at once -/
theorem ps_gen {i : Nat} {y : Str} {py spos pos' : Pos} (calm : X.calm = true) (hN : X.N.Nodup) (hy : X.N[i]? = some y) (loc : X.env.scope.names.lookup y = some .local) (sw : swapsWith e (some (.Name y py)) spos.line X.env = pure true)
    (bk : BlkOk X.N X.env.scope scope own) (c : CompParts X e scope newAcc o own wi g tt ta)
    (ev : ∀ use, evalThenUse e X.env use = (comprehension e scope X.env pos' newAcc (firstAsync (clausesOf e)) (firstIter (clausesOf e) X.env) (some use) >>= fun _ => pure ())) :
    L2.PS X (.Assign [.Name y py] e spos) (tAsg (tGen o wi g tt ta (own.map (·.2))) (gName i)) := by
  refine ⟨fun pins s σ H D I h => ?_⟩
  rw [exec_Assign_Name_used _ _ _ _ sw, ev]
  refine wpAny_bind (wpAny_standAt (wpAny_bind (wpAny_bind ?_)))
  refine thn (blk_run (use := some (assign (.Name y py) X.env)) (Qf := fun _ s' => SP X pins D .next s') (Q := fun x H1 => gName i x σ H1 D.nx) calm hN I bk c h fun L C s' m H' I' q isNs fp => ?_) fun _ s' q => wpAny_pure (wpAny_pure q)
  refine wpAny_assign_Name (store_ok2 (v := V.ref L) I' hN hy (.inl loc) rfl (fun s2 I2 ⟨a, sb, ha⟩ => ⟨m, isNs.sameBut sb fun z => ?_, fun h3 sb3 => ?_⟩) (.inr loc))
  · rcases ha with q | q
    · exact fp.2.1 (z.trans q)
    · exact fp.2.2.2.2.1 y a q z.symm
  · exact ⟨_, H', I2.turned (t' := s2.toks) (fun b u hb at' => (sb3.2 b hb).trans at') fp.1 fp.2.1 fp.2.2.2.1 fp.2.2.2.2.1 fp.2.2.2.2.2, q⟩
end
end GS

/-! GM2: d.update(e), star targets. -/
namespace GS
open PySem PySem.Spec PyProof.Rows L2

def rUpdate : V → List V → Hp → VK → Prop := fun x vs H Q => ∃ d o kvs more, x = .ref d ∧ vs = [.ref o] ∧ d ≠ o ∧ H d = some (.dK kvs) ∧ H o = some (.dK more) ∧ kvs.length + more.length ≤ sizeLine ∧ Q .non (upd H d (.dK (mergeK kvs more)))
section
variable {X : Cx}
theorem mt_update : MtM X "dict.update" rUpdate := by
  intro pins s σ H x vs v us Q I rx rv h
  obtain ⟨d, o, kvs, more, rfl, rfl, ne, at1, at2, fit, q⟩ := h
  cases rx
  obtain ⟨u, rfl, ru⟩ := rv.one
  cases ru
  obtain ⟨z1, n1, ws1, k1, d1⟩ := dk_of I.hok at1
  obtain ⟨z2, n2, ws2, k2, d2⟩ := dk_of I.hok at2
  have l1 := Paired.length k1
  have l2 := Paired.length k2
  refine call_meetsIn F.slot_dict_update d1.typeIs F.entry_dict_update (F.args_dict_update_2 _ _) (meets_dict_update (mixKind X.prog X.w) d o ne n2) ⟨ws1, ws2, d1, d2, by omega, fun h' m1 m2 sb => ?_⟩
  have km := KV.merge k2 k1
  have le := merged_length_le ws1 ws2
  have there : ∃ u, h'.get? d = some u := let ⟨u, _, _, hu, _⟩ := m1; ⟨u, hu⟩
  refine ⟨.non, _, d_write I (by rw [at1]; exact True.intro) sb there (dk_new ?_ n1 km m1), rfl, q⟩
  have := Paired.length km
  omega
end

/-! ### star targets -/
section
variable {M : Model} {A : Around} {E : Value → Shared → Prop} {s : Shared}
/-- unpacking with a star, by what the walk of the thing gives -/
theorem star_core {v : Value} {items : List Value} {n i : Nat} {Q : List Value → Shared → Prop} (P : Shared → Prop) (hi : i < n) (hn : n ≤ items.length + 1) (hz : items.length ≤ sizeLine)
    (can : wpAny M A (notIterableAtAll v) (fun b s' => b = false ∧ s' = s) E s)
    (walk : wpAny M A (pyIter v) (fun it s1 => wpAny M A (draw it i) (fun first s2 => first = items.take i ∧ wpAny M A (collect it) (fun rest s3 => rest = items.drop i ∧ P s3) E s2) E s1) E s)
    (go : ∀ s', P s' → Q (items.take i ++ [.ref s'.heap.objs.size] ++ (items.drop i).drop (items.length + 1 - n)) { s' with heap := s'.heap.push { cls := .type "list", data := .seq ((items.drop i).take (items.length + 1 - n)).toArray } }) :
    wpAny M A (unpackItems v n (some i)) Q E s := by
  unfold unpackItems
  refine wpAny_bind (wpAny_mono can (fun b s' ⟨hb, hs⟩ => ?_) fun _ _ z => z)
  subst hb hs
  refine wpAny_bind (wpAny_holding (wpAny_mono walk (fun it s1 h1 => ?_) fun _ _ z => z))
  refine wpAny_bind (wpAny_holding (wpAny_mono h1 (fun first s2 ⟨hf, h2⟩ => ?_) fun _ _ z => z))
  subst hf
  have lf : (items.take i).length = i := by rw [List.length_take]; omega
  rw [if_neg (by omega)]
  refine wpAny_bind (wpAny_holding (wpAny_mono h2 (fun rest s3 ⟨hr, p3⟩ => ?_) fun _ _ z => z))
  subst hr
  have lr : (items.drop i).length = items.length - i := List.length_drop
  dsimp only
  rw [if_neg (by omega)]
  have mid : (items.drop i).length - (n - 1 - i) = items.length + 1 - n := by omega
  rw [mid]
  have q := go s3 p3
  refine wpAny_bind (wpAny_newObj_type (wpAny_pure q) ?_)
  show ((items.drop i).take (items.length + 1 - n)).toArray.size ≤ sizeLine
  rw [List.size_toArray, List.length_take]
  omega
end
def gStar (K : PySem.W.Frag) (n i : Nat) (t : TGs) : TG := fun v σ H Q => ∃ a xs, v = .ref a ∧ (SqT K H a xs ∨ SqL K H a xs) ∧ n ≤ xs.length + 1 ∧ xs.length ≤ sizeLine ∧
  ∀ p, H p = none → t (xs.take i ++ [.ref p] ++ (xs.drop i).drop (xs.length + 1 - n)) σ (upd H p (.lst ((xs.drop i).take (xs.length + 1 - n)))) Q
section
variable {X : Cx}
theorem vals_star {xs : List V} {us : List Value} {i n : Nat} {p : Addr} (r : Vals xs us) : Vals (xs.take i ++ [V.ref p] ++ (xs.drop i).drop (xs.length + 1 - n)) (us.take i ++ [Value.ref p] ++ (us.drop i).drop (us.length + 1 - n)) := by
  have dr : ∀ {xs : List V} {us : List Value} (k : Nat), Vals xs us → Vals (xs.drop k) (us.drop k) := fun {xs us} k r => by
    induction k generalizing xs us with
    | zero => exact r
    | succ k ih =>
      cases r with
      | nil => exact .nil
      | cons _ t => exact ih t
  rw [r.length]
  exact ((r.take i).append (.cons (show RelV (V.ref p) (Value.ref p) from rfl) .nil)).append (dr _ (dr _ r))
theorem pg_star {es : List Expr} {k i n : Nat} {t : TGs} {pos : Pos} (hc : X.calm = true) (h : L2.PGs X es t) (hi : i < n) (hn : (assignEach es X.env).length = n) (hst : (assignEach es X.env).findIdx? (·.1) = some i) :
    L2.PG X (.Tuple es k pos) (gStar X.K n i t) := by
  refine ⟨fun pins s σ H v u Q I r hw => ?_⟩
  obtain ⟨a, xs, rfl, src, fit, hz, hw⟩ := hw
  cases r
  have hd := I.ok.hd hc
  -- behind the walk: all as it stood, a new list
  have after : ∀ (its : List Value), Vals xs its → ∀ (h' : Heap) (tk : Nat), (∀ b o, s.heap.get? b = some o → h'.get? b = some o) →
      wpAny (model X.prog X.w) X.A (assignInOrder ((assignEach es X.env).map (·.2)) (its.take i ++ [.ref h'.objs.size] ++ (its.drop i).drop (its.length + 1 - n))) (fun _ s' => ∃ σ' H', Inv X pins σ' H' s' ∧ Q σ' H') X.xe
        { s with heap := h'.push { cls := .type "list", data := .seq ((its.drop i).take (its.length + 1 - n)).toArray }, toks := tk } := fun its rv h' tk kept => by
    have I1 : Inv X pins σ H { s with heap := h', toks := tk } := I.kept kept
    have new : H h'.objs.size = none := I1.hok.fresh (Nat.le_refl _)
    have rm : Vals ((xs.drop i).take (xs.length + 1 - n)) ((its.drop i).take (its.length + 1 - n)) := by
      rw [rv.length]
      have dr : ∀ {xs : List V} {us : List Value} (k : Nat), Vals xs us → Vals (xs.drop k) (us.drop k) := fun {xs us} k r => by
        induction k generalizing xs us with
        | zero => exact r
        | succ k ih =>
          cases r with
          | nil => exact .nil
          | cons _ t => exact ih t
      exact (dr i rv).take _
    have I2 : Inv X pins σ (upd H h'.objs.size (.lst ((xs.drop i).take (xs.length + 1 - n)))) { s with heap := h'.push { cls := .type "list", data := .seq ((its.drop i).take (its.length + 1 - n)).toArray }, toks := tk } :=
      I1.laid (t' := tk) (fun b u at' => Heap.get?_push_of_some _ at') (Nat.le_refl _) ⟨by rw [List.length_take, List.length_drop]; omega, _, 0, rm, Heap.get?_push_size _ rfl⟩
    exact h.run pins _ σ _ _ _ Q I2 (vals_star rv) (hw _ new)
  rw [assign_Tuple]
  refine wpAny_bind (wpAny_standAt ?_)
  unfold unpack
  rw [hn, hst]
  rcases src with src | src
  · obtain ⟨its, rv, ht, _⟩ := I.tuple src
    have hl := rv.length
    have far : a ≠ s.heap.objs.size := by obtain ⟨o, ho, _⟩ := ht; exact Nat.ne_of_lt (Heap.lt_size ho)
    refine wpAny_bind (wpAny_holding (star_core (items := its) (P := fun s' => ∃ h' tk, s' = { s with heap := h', toks := tk } ∧ ∀ b o, s.heap.get? b = some o → h'.get? b = some o) hi (by omega) (by omega) ?_ ?_ fun s' ⟨h', tk, es', kept⟩ => by subst es'; exact after its rv h' tk kept))
    · unfold notIterableAtAll
      exact wpAny_bind (wpAny_specialOf ht.typeIs slot_tuple_iter.lookup (wpAny_pure ⟨rfl, rfl⟩))
    · refine iter_tuple ht (draw_tuple far i 0 _ _ ⟨_, Heap.get?_push_size _ rfl, rfl, rfl⟩ (ht.push _) (by simpa using (by omega : i ≤ its.length)) fun h1 hit sb => ?_)
      rw [List.drop_zero]
      refine ⟨rfl, ?_⟩
      have ht1 : IsTup h1 a its.toArray := (ht.push _).extBut sb.extBut far
      rw [Nat.zero_add] at hit
      obtain ⟨oi, hoi, _⟩ := id hit
      obtain ⟨ot, hot, _⟩ := id ht1
      exact PySem.W.kun_collect (T := "tuple_iterator") (.inr (.inr (.inr rfl))) (Walks.tuple (A := X.A.in1) hd s.heap.objs.size a far its.toArray) (fun j u st => st.1.typeIs) (by simpa using (by omega : i ≤ its.length)) ⟨hit, ht1⟩ (Heap.lt_size hoi) (Heap.lt_size hot)
        (fun h2 tk hk => ⟨rfl, h2, tk, rfl, fun b o at' => hk b o (Nat.ne_of_lt (Heap.lt_size at')) (sb.extBut b o (Nat.ne_of_lt (Heap.lt_size at')) (Heap.get?_push_of_some _ at'))⟩) (by simpa using (by omega : its.length ≤ sizeLine))
  · obtain ⟨its, rv, ht, _⟩ := I.list src
    have ht := ht.isList
    have hl := rv.length
    have far : a ≠ s.heap.objs.size := by obtain ⟨o, ho, _⟩ := ht; exact Nat.ne_of_lt (Heap.lt_size ho)
    refine wpAny_bind (wpAny_holding (star_core (items := its) (P := fun s' => ∃ h' tk, s' = { s with heap := h', toks := tk } ∧ ∀ b o, s.heap.get? b = some o → h'.get? b = some o) hi (by omega) (by omega) ?_ ?_ fun s' ⟨h', tk, es', kept⟩ => by subst es'; exact after its rv h' tk kept))
    · unfold notIterableAtAll
      exact wpAny_bind (wpAny_specialOf ht.typeIs slot_list_iter.lookup (wpAny_pure ⟨rfl, rfl⟩))
    · refine wpAny_pyIter_list ht (PySem.W.kun_draw far i 0 _ _ ⟨_, Heap.get?_push_size _ rfl, rfl, rfl⟩ (ht.push _) (by simpa using (by omega : i ≤ its.length)) fun h1 hit sb => ?_)
      rw [List.drop_zero]
      refine ⟨rfl, ?_⟩
      have ht1 : h1.IsList a its.toArray := (ht.push _).extBut sb.extBut far
      rw [Nat.zero_add] at hit
      obtain ⟨oi, hoi, _⟩ := id hit
      obtain ⟨ot, hot, _⟩ := id ht1
      exact PySem.W.kun_collect (T := "list_iterator") (.inr (.inr (.inl rfl))) (Walks.list (A := X.A.in1) hd s.heap.objs.size a far its.toArray) (fun j u st => st.1.typeIs) (by simpa using (by omega : i ≤ its.length)) ⟨hit, ht1⟩ (Heap.lt_size hoi) (Heap.lt_size hot)
        (fun h2 tk hk => ⟨rfl, h2, tk, rfl, fun b o at' => hk b o (Nat.ne_of_lt (Heap.lt_size at')) (sb.extBut b o (Nat.ne_of_lt (Heap.lt_size at')) (Heap.get?_push_of_some _ at'))⟩) (by simpa using (by omega : its.length ≤ sizeLine))
end
end GS

/-! GM3: zip with strict=True. -/
namespace GS
open PySem PySem.Spec PyProof.Rows L2

/-- a zip object that is strict -/
abbrev IsZipS (h : Heap) (z TI TO : Addr) (f : Value) : Prop := h.get? z = some { cls := .type "zip", data := .fields #[f, .bool false, .bool true, .ref TI, .ref TO] }
section
variable {prog : Program} {w : World} {A : Around} {E : Value → Shared → Prop} {s : Shared} {z TI TO i1 i2 it : Addr} {fp1 fp2 fp : List Addr} {n n1 n2 i : Nat} {P1 P2 P : Nat → Value → Prop} {St1 St2 St : Nat → Heap → Prop} {a1 a2 : Value}
theorem orEnd_item {Q : Option Value → Shared → Prop} (D : Draws prog w A it fp n P St) (lt : i < n) (st : St i s.heap) (h : ∀ x h' tk, P i x → St (i + 1) h' → Heap.SameBut it s.heap h' → Q (some x) { s with heap := h', toks := tk }) :
    wpAny (model prog w) A (Builtin.SmallTypes.nextOrEnd (.ref it)) Q E s := by
  unfold Builtin.SmallTypes.nextOrEnd
  exact wpAny_bind (wpAny_attempt (D.item i s _ _ lt st fun x h' tk px st' sb => wpAny_pure (h x h' tk px st' sb)))
theorem orEnd_end {Q : Option Value → Shared → Prop} (D : Draws prog w A it fp n P St) (st : St n s.heap) (h : ∀ h', Heap.ExtBut it s.heap h' → Q none { s with heap := h' }) :
    wpAny (model prog w) A (Builtin.SmallTypes.nextOrEnd (.ref it)) Q E s := by
  unfold Builtin.SmallTypes.nextOrEnd
  refine wpAny_bind (wpAny_attempt (D.done s _ _ st fun h' e eb ⟨o, at', c⟩ => ?_))
  exact wpAny_bind (wpAny_isInstance (T := "StopIteration") (b := true) ⟨o, at', c⟩ isSubtype_stop (wpAny_pure (h h' eb)))
theorem zipS_item {Q : Value → Shared → Prop} (S : ZipSep2 z TI TO i1 i2 fp1 fp2) (D1 : Draws prog w A i1 fp1 n1 P1 St1) (D2 : Draws prog w A i2 fp2 n2 P2 St2) (at_ : IsZipS s.heap z TI TO .none) (its : IsTupOf2 s.heap TI (.ref i1) (.ref i2)) (own : IsTupOf2 s.heap TO a1 a2)
    (st1 : St1 i s.heap) (st2 : St2 i s.heap) (l1 : i < n1) (l2 : i < n2)
    (h : ∀ x y h' tk, P1 i x → P2 i y → IsZipS h' z TI TO (rawInt s.heap.objs.size) → IsTupOf2 h' TO x y → St1 (i + 1) h' → St2 (i + 1) h' → IsTupOf2 h' s.heap.objs.size x y → h'.objs.size = s.heap.objs.size + 1 →
      (∀ c o, c ≠ z → c ≠ TO → c ≠ i1 → c ≠ i2 → s.heap.get? c = some o → h'.get? c = some o) → Q (.ref s.heap.objs.size) { s with heap := h', toks := tk }) :
    wpAny (model prog w) A (Builtin.«zip.__next__» ⟨[.ref z], []⟩) (fun fin s' => ∃ v, fin = .done (.ret v) ∧ Q v s') E s := by
  obtain ⟨hp, gn, dr, tk0, os⟩ := s
  show wpAny _ _ (field (.ref z) 2 >>= fun b => _) _ _ _
  refine wpAny_bind (wpAny_field at_ rfl (x := .bool true) rfl ?_)
  show wpAny _ _ (field (.ref z) 3 >>= fun t => _) _ _ _
  refine wpAny_bind (wpAny_field at_ rfl (x := .ref TI) rfl (wpAny_bind (wpAny_seqItems its rfl ?_)))
  show wpAny _ _ (Builtin.SmallTypes.ownedTupleIsFree (.ref z) >>= fun b => _) _ _ _
  unfold Builtin.SmallTypes.ownedTupleIsFree
  refine wpAny_bind (wpAny_bind (wpAny_field at_ rfl (x := .none) rfl (wpAny_pure ?_)))
  simp only [if_true]
  refine wpAny_bind (wpAny_rule (wpAny_bind (wpAny_field at_ rfl (x := .ref TO) rfl (wpAny_bind (wpAny_setField_rec at_ (by simp) fun g0 z0 k0 => wpAny_bind ?_)))))
  replace z0 : IsZipS g0 z TI TO .ellipsis := z0
  replace k0 : Heap.SameBut z hp g0 := k0
  simp only [List.zipIdx_cons, List.zipIdx_nil, List.forIn_cons, List.forIn_nil]
  refine wpAny_bind (wpAny_bind (wpAny_onRaise ?_))
  show wpAny _ _ (Builtin.SmallTypes.nextOrEnd (.ref i1)) _ _ ⟨g0, gn, dr, tk0, os⟩
  refine orEnd_item D1 l1 (D1.over st1 k0 S.zf1) fun x g1 t1 px s1 k1 => ?_
  replace k1 : Heap.SameBut i1 g0 g1 := k1
  have o1 : IsTupOf2 g1 TO a1 a2 := k1.extBut _ _ S.Ti1 (k0.extBut _ _ S.TOz own)
  refine wpAny_bind (wpAny_seqItems (s := ⟨g1, gn, dr, t1, os⟩) o1 rfl (wpAny_bind (updateSeq_IsTupOf2 (s := ⟨g1, gn, dr, t1, os⟩) o1 fun g2 o2 k2 => wpAny_bind (wpAny_letGo (wpAny_pure ?_)))))
  replace o2 : IsTupOf2 g2 TO x a2 := o2
  replace k2 : Heap.SameBut TO g1 g2 := k2
  refine wpAny_bind (wpAny_bind (wpAny_onRaise ?_))
  show wpAny _ _ (Builtin.SmallTypes.nextOrEnd (.ref i2)) _ _ ⟨g2, gn, dr, t1, os⟩
  refine orEnd_item (s := ⟨g2, gn, dr, t1, os⟩) D2 l2 (D2.over (D2.over (D2.over st2 k0 S.zf2) k1 S.sep1_2) k2 S.Tf2) fun y g3 t3 py s3 k3 => ?_
  replace k3 : Heap.SameBut i2 g2 g3 := k3
  have o3 : IsTupOf2 g3 TO x a2 := k3.extBut _ _ S.Ti2 o2
  refine wpAny_bind (wpAny_seqItems (s := ⟨g3, gn, dr, t3, os⟩) o3 rfl (wpAny_bind (updateSeq_IsTupOf2 (s := ⟨g3, gn, dr, t3, os⟩) o3 fun g4 o4 k4 => wpAny_bind (wpAny_letGo (wpAny_pure (wpAny_pure ?_))))))
  replace o4 : IsTupOf2 g4 TO x y := o4
  replace k4 : Heap.SameBut TO g3 g4 := k4
  refine wpAny_bind (wpAny_seqItems (s := ⟨g4, gn, dr, t3, os⟩) o4 rfl (wpAny_bind (wpAny_newTuple ?_)))
  have size : g4.objs.size = hp.objs.size := by rw [k4.1, k3.1, k2.1, k1.1, k0.1]
  have far : ∀ c o, c ≠ z → c ≠ TO → c ≠ i1 → c ≠ i2 → hp.get? c = some o → g4.get? c = some o := fun c o c1 c2 c3 c4 q => k4.extBut _ _ c2 (k3.extBut _ _ c4 (k2.extBut _ _ c2 (k1.extBut _ _ c3 (k0.extBut _ _ c1 q))))
  have z4 : IsZipS g4 z TI TO .ellipsis := k4.extBut _ _ S.TOz.symm (k3.extBut _ _ S.zi2 (k2.extBut _ _ S.TOz.symm (k1.extBut _ _ S.zi1 z0)))
  have s1' : St1 (i + 1) g4 := D1.over (D1.over (D1.over s1 k2 S.Tf1) k3 S.sep2_1) k4 S.Tf1
  have s2' : St2 (i + 1) g4 := D2.over s3 k4 S.Tf2
  have zlt : z < g4.objs.size := Heap.lt_size z4
  show wpAny _ _ (Builtin.SmallTypes.ownedTupleHandOut (.ref z) (.ref g4.objs.size) >>= fun u => _) _ _ _
  unfold Builtin.SmallTypes.ownedTupleHandOut
  have z5 : IsZipS (g4.push { cls := .type "tuple", data := .seq #[x, y] }) z TI TO .ellipsis := Heap.get?_push_of_some _ z4
  refine wpAny_bind (wpAny_bind (wpAny_setField_rec z5 (by simp) fun g6 z6 k6 => ?_))
  replace z6 : IsZipS g6 z TI TO (rawInt g4.objs.size) := z6
  refine wpAny_setField_rec z6 (by simp) fun g7 z7 k7 => wpAny_pure ⟨_, rfl, ?_⟩
  replace z7 : IsZipS g7 z TI TO (rawInt g4.objs.size) := z7
  have up : ∀ c o, c ≠ z → g4.get? c = some o → g7.get? c = some o := fun c o c1 q => k7.extBut _ _ c1 (k6.extBut _ _ c1 (Heap.get?_push_of_some _ q))
  have new : IsTupOf2 g7 g4.objs.size x y := k7.extBut _ _ (Nat.ne_of_gt zlt) (k6.extBut _ _ (Nat.ne_of_gt zlt) (Heap.get?_push_size _ rfl))
  have size7 : g7.objs.size = g4.objs.size + 1 := by rw [k7.1, k6.1, Heap.size_push]
  have d1 : St1 (i + 1) g7 := D1.frame _ _ _ s1' fun b hb o q => up b o (fun e => S.zf1 (e ▸ hb)) q
  have d2 : St2 (i + 1) g7 := D2.frame _ _ _ s2' fun b hb o q => up b o (fun e => S.zf2 (e ▸ hb)) q
  show Q (.ref g4.objs.size) ⟨g7, gn, dr, t3, os⟩
  rw [size] at z7 new size7 ⊢
  exact h x y g7 t3 px py z7 (up _ _ S.TOz o4) d1 d2 new size7 fun c o c1 c2 c3 c4 q => up c o c1 (far c o c1 c2 c3 c4 q)

theorem stop_now {α : Type} {Q : α → Shared → Prop} (calm : A.handled = none) (h : ∀ h' e, (∀ b o, s.heap.get? b = some o → h'.get? b = some o) → (∃ o, h'.get? e = some o ∧ o.cls = .type "StopIteration") → E (.ref e) { s with heap := h' }) :
    wpAny (model prog w) A (Builtin.SmallTypes.stopIteration : Sem α) Q E s := by
  unfold Builtin.SmallTypes.stopIteration
  refine wpAny_bind ?_
  simp only [newExc, newTuple]
  refine wpAny_bind (wpAny_newObj_type ?_ (by show 0 ≤ sizeLine; decide))
  refine wpAny_bind (m := firstArgMember _ _) (wpAny_of_eq (a := Value.none) (by simp only [firstArgMember]; rfl) (wpAny_newObj_type ?_ (by size_fits)))
  exact wpAny_raiseNew_none calm (h _ _ (fun b o q => Heap.get?_push_of_some _ (Heap.get?_push_of_some _ q)) ⟨_, Heap.get?_push_size _ rfl, rfl⟩)
theorem zipS_end {Q : PySem.Fin → Shared → Prop} (calm : A.handled = none) (S : ZipSep2 z TI TO i1 i2 fp1 fp2) (D1 : Draws prog w A i1 fp1 n P1 St1) (D2 : Draws prog w A i2 fp2 n P2 St2) (at_ : IsZipS s.heap z TI TO .none) (its : IsTupOf2 s.heap TI (.ref i1) (.ref i2))
    (own : IsTupOf2 s.heap TO a1 a2) (st1 : St1 n s.heap) (st2 : St2 n s.heap)
    (h : ∀ h' e, (∀ c o, c ≠ z → c ≠ TO → c ≠ i1 → c ≠ i2 → s.heap.get? c = some o → h'.get? c = some o) → (∃ o, h'.get? e = some o ∧ o.cls = .type "StopIteration") → E (.ref e) { s with heap := h' }) :
    wpAny (model prog w) A (Builtin.«zip.__next__» ⟨[.ref z], []⟩) Q E s := by
  obtain ⟨hp, gn, dr, tk0, os⟩ := s
  show wpAny _ _ (field (.ref z) 2 >>= fun b => _) _ _ _
  refine wpAny_bind (wpAny_field at_ rfl (x := .bool true) rfl ?_)
  show wpAny _ _ (field (.ref z) 3 >>= fun t => _) _ _ _
  refine wpAny_bind (wpAny_field at_ rfl (x := .ref TI) rfl (wpAny_bind (wpAny_seqItems its rfl ?_)))
  show wpAny _ _ (Builtin.SmallTypes.ownedTupleIsFree (.ref z) >>= fun b => _) _ _ _
  unfold Builtin.SmallTypes.ownedTupleIsFree
  refine wpAny_bind (wpAny_bind (wpAny_field at_ rfl (x := .none) rfl (wpAny_pure ?_)))
  simp only [if_true]
  refine wpAny_bind (wpAny_rule (wpAny_bind (wpAny_field at_ rfl (x := .ref TO) rfl (wpAny_bind (wpAny_setField_rec at_ (by simp) fun g0 z0 k0 => wpAny_bind ?_)))))
  replace z0 : IsZipS g0 z TI TO .ellipsis := z0
  replace k0 : Heap.SameBut z hp g0 := k0
  simp only [List.zipIdx_cons, List.zipIdx_nil, List.forIn_cons, List.forIn_nil]
  refine wpAny_bind (wpAny_bind (wpAny_onRaise ?_))
  show wpAny _ _ (Builtin.SmallTypes.nextOrEnd (.ref i1)) _ _ ⟨g0, gn, dr, tk0, os⟩
  refine orEnd_end D1 (D1.over st1 k0 S.zf1) fun g1 k1 => ?_
  replace k1 : Heap.ExtBut i1 g0 g1 := k1
  have z1 : IsZipS g1 z TI TO .ellipsis := k1 _ _ S.zi1 z0
  refine wpAny_bind (wpAny_setField_rec (s := ⟨g1, gn, dr, tk0, os⟩) z1 (by simp) fun g2 z2 k2 => ?_)
  replace k2 : Heap.SameBut z g1 g2 := k2
  have kept : ∀ b o, b ≠ z → b ≠ i1 → hp.get? b = some o → g2.get? b = some o := fun b o c1 c2 q => k2.extBut _ _ c1 (k1 _ _ c2 (k0.extBut _ _ c1 q))
  refine wpAny_bind ?_
  show wpAny _ _ (forIn [(Value.ref i2, 1)] PUnit.unit _ >>= fun u => _) _ _ _
  simp only [List.forIn_cons, List.forIn_nil]
  refine wpAny_bind (wpAny_bind (wpAny_bind ?_))
  refine orEnd_end (s := ⟨g2, gn, dr, tk0, os⟩) D2 (D2.frame _ _ _ st2 fun b hb o q => kept b o (fun e => S.zf2 (e ▸ hb)) (fun e => S.sep1_2 (e ▸ hb)) q) fun g3 k3 => ?_
  replace k3 : Heap.ExtBut i2 g2 g3 := k3
  refine wpAny_pure (wpAny_pure (wpAny_bind (wpAny_rule ?_)))
  exact stop_now (s := ⟨g3, gn, dr, tk0, os⟩) calm fun h' e kp is => h h' e (fun c o c1 c2 c3 c4 q => kp _ _ (k3 _ _ c4 (kept c o c1 c3 q))) is
theorem next_zipS_item {Q : Option Value → Shared → Prop} (S : ZipSep2 z TI TO i1 i2 fp1 fp2) (D1 : Draws prog w A.in1 i1 fp1 n1 P1 St1) (D2 : Draws prog w A.in1 i2 fp2 n2 P2 St2) (at_ : IsZipS s.heap z TI TO .none) (its : IsTupOf2 s.heap TI (.ref i1) (.ref i2)) (own : IsTupOf2 s.heap TO a1 a2)
    (st1 : St1 i s.heap) (st2 : St2 i s.heap) (l1 : i < n1) (l2 : i < n2)
    (h : ∀ x y h' tk, P1 i x → P2 i y → IsZipS h' z TI TO (rawInt s.heap.objs.size) → IsTupOf2 h' TO x y → St1 (i + 1) h' → St2 (i + 1) h' → IsTupOf2 h' s.heap.objs.size x y → h'.objs.size = s.heap.objs.size + 1 →
      (∀ c o, c ≠ z → c ≠ TO → c ≠ i1 → c ≠ i2 → s.heap.get? c = some o → h'.get? c = some o) → Q (some (.ref s.heap.objs.size)) { s with heap := h', toks := tk }) :
    wpAny (model prog w) A (pyNext (.ref z)) Q E s := by
  have ty : s.TypeIs (.ref z) "zip" := ⟨_, at_, rfl⟩
  unfold pyNext
  refine wpAny_bind (wpAny_attempt (wpAny_callSpecial?_slot (name := Str.ofString "__next__") ty F.slot_zip_next (wpAny_call_entry F.slot_zip_next ty F.entry_zip_next ?_ (F.args_zip_next_1 _))))
  exact zipS_item S D1 D2 at_ its own st1 st2 l1 l2 fun x y h' tk c1 c2 c3 c4 c5 c6 c7 c8 c9 => wpAny_pure (h x y h' tk c1 c2 c3 c4 c5 c6 c7 c8 c9)
theorem next_zipS_end {Q : Option Value → Shared → Prop} (calm : A.handled = none) (S : ZipSep2 z TI TO i1 i2 fp1 fp2) (D1 : Draws prog w A.in1 i1 fp1 n P1 St1) (D2 : Draws prog w A.in1 i2 fp2 n P2 St2) (at_ : IsZipS s.heap z TI TO .none)
    (its : IsTupOf2 s.heap TI (.ref i1) (.ref i2)) (own : IsTupOf2 s.heap TO a1 a2) (st1 : St1 n s.heap) (st2 : St2 n s.heap)
    (h : ∀ h', (∀ c o, c ≠ z → c ≠ TO → c ≠ i1 → c ≠ i2 → s.heap.get? c = some o → h'.get? c = some o) → Q none { s with heap := h' }) : wpAny (model prog w) A (pyNext (.ref z)) Q E s := by
  have ty : s.TypeIs (.ref z) "zip" := ⟨_, at_, rfl⟩
  unfold pyNext
  refine wpAny_bind (wpAny_attempt (wpAny_callSpecial?_slot (name := Str.ofString "__next__") ty F.slot_zip_next (wpAny_call_entry F.slot_zip_next ty F.entry_zip_next ?_ (F.args_zip_next_1 _))))
  refine zipS_end (A := A.in1) calm S D1 D2 at_ its own st1 st2 fun h' e kept ⟨o, at', c⟩ => ?_
  exact wpAny_bind (wpAny_isInstance (T := "StopIteration") (b := true) ⟨o, at', c⟩ isSubtype_stop (wpAny_pure (h h' kept)))
end

/-! ### it is made -/
theorem typeCall_zipS (a b c : Value) : checkTypeCall "zip" ⟨[a, b], [(Str.ofString "strict", c)]⟩ = pure () := by kernel_rfl
theorem newCall_zipS (a b c : Value) : checkBuiltinCall "zip.__new__" ⟨[.type "zip", a, b], [(Str.ofString "strict", c)]⟩ = pure () := by kernel_rfl
theorem args_initS (obj a b c : Value) : argsOk "object.__init__" ⟨[obj, a, b], [(Str.ofString "strict", c)]⟩ := by unfold argsOk; kernel_rfl
abbrev zsZ (h : Heap) (o1 o2 : Obj) : Heap := (gzO2 h o1 o2).push { cls := .type "zip", data := .fields #[.none, .bool false, .bool true, .ref ((h.push o1).push o2).objs.size, .ref (gzT2 h o1 o2).objs.size] }
theorem meets_zipS {v1 v2 : Value} {o1 o2 : Obj} {H1 H2 : Heap → Prop} (B1 : Begins v1 o1 H1) (B2 : Begins v2 o2 H2) :
    Meets (Builtin.«zip.__new__» ⟨[.type "zip", v1, v2], [(Str.ofString "strict", .bool true)]⟩) (fun _ R s => (H1 s.heap ∧ H2 s.heap) ∧ R (.ok (.ret (.ref (gzO2 s.heap o1 o2).objs.size))) { s with heap := zsZ s.heap o1 o2 }) :=
  .of_wp fun prog w A R s h => by
    obtain ⟨hp, gn, dr, tk, os⟩ := s
    obtain ⟨⟨h1, h2⟩, h⟩ := h
    have isZip := PySem.sub_zip
    have b1 : ∀ {A' : Around} {E Q : Value → Shared → Prop}, Q (.ref hp.objs.size) ⟨hp.push o1, gn, dr, tk, os⟩ → wpAny (model prog w) A' (pyIter v1) Q E ⟨hp, gn, dr, tk, os⟩ := fun q => B1.iter prog w _ _ ⟨hp, gn, dr, tk, os⟩ _ h1 q
    have b2 : ∀ {A' : Around} {E Q : Value → Shared → Prop}, Q (.ref (hp.push o1).objs.size) ⟨(hp.push o1).push o2, gn, dr, tk, os⟩ → wpAny (model prog w) A' (pyIter v2) Q E ⟨hp.push o1, gn, dr, tk, os⟩ := fun q =>
      B2.iter prog w _ _ ⟨hp.push o1, gn, dr, tk, os⟩ _ (B2.keeps _ _ h2 fun b o at' => Heap.get?_push_of_some _ at') q
    have k1 : (Str.ofString "strict" != ("strict" : Str)) = false := by decide +kernel
    have k2 : (Str.ofString "strict" == ("strict" : Str)) = true := by decide +kernel
    wp_walk using b1, b2
    exact ⟨_, rfl, h⟩
section
variable {prog : Program} {w : World} {A : Around} {E : Value → Shared → Prop} {s : Shared}
theorem zipS_begins {v1 v2 : Value} {o1 o2 : Obj} {H1 H2 : Heap → Prop} {Q : Value → Shared → Prop} (B1 : Begins v1 o1 H1) (B2 : Begins v2 o2 H2) (h1 : H1 s.heap) (h2 : H2 s.heap)
    (h : ∀ h', IsZipS h' (s.heap.objs.size + 4) (s.heap.objs.size + 2) (s.heap.objs.size + 3) .none → IsTupOf2 h' (s.heap.objs.size + 2) (.ref s.heap.objs.size) (.ref (s.heap.objs.size + 1)) → IsTupOf2 h' (s.heap.objs.size + 3) .none .none →
      h'.get? s.heap.objs.size = some o1 → h'.get? (s.heap.objs.size + 1) = some o2 → h'.objs.size = s.heap.objs.size + 5 → (∀ c o, s.heap.get? c = some o → h'.get? c = some o) → Q (.ref (s.heap.objs.size + 4)) { s with heap := h' }) :
    wpAny (model prog w) A (call (.type "zip") [v1, v2] [(Str.ofString "strict", .bool true)]) Q E s := by
  refine callType_newKw F.called_zip (by decide) (typeCall_zipS _ _ _) (newCall_zipS _ _ _) (fun obj => args_initS obj _ _ _) F.entry_zip_new (meets_zipS B1 B2) ⟨⟨h1, h2⟩, ?_⟩
  have s1 : (s.heap.push o1).objs.size = s.heap.objs.size + 1 := Heap.size_push ..
  have s2 : ((s.heap.push o1).push o2).objs.size = s.heap.objs.size + 2 := by rw [Heap.size_push, s1]
  have s3 : (gzT2 s.heap o1 o2).objs.size = s.heap.objs.size + 3 := by rw [Heap.size_push, s2]
  have s4 : (gzO2 s.heap o1 o2).objs.size = s.heap.objs.size + 4 := by rw [Heap.size_push, s3]
  have up : ∀ {h : Heap} {o : Obj} {b : Addr} {u : Obj}, h.get? b = some u → (h.push o).get? b = some u := fun q => Heap.get?_push_of_some _ q
  have z : IsZipS (zsZ s.heap o1 o2) (gzO2 s.heap o1 o2).objs.size ((s.heap.push o1).push o2).objs.size (gzT2 s.heap o1 o2).objs.size .none := Heap.get?_push_size _ rfl
  have t : IsTupOf2 (zsZ s.heap o1 o2) ((s.heap.push o1).push o2).objs.size (.ref s.heap.objs.size) (.ref (s.heap.push o1).objs.size) := up (up (Heap.get?_push_size _ rfl))
  have o : IsTupOf2 (zsZ s.heap o1 o2) (gzT2 s.heap o1 o2).objs.size .none .none := up (Heap.get?_push_size _ rfl)
  have a1 : (zsZ s.heap o1 o2).get? s.heap.objs.size = some o1 := up (up (up (up (Heap.get?_push_size _ B1.free))))
  have a2 : (zsZ s.heap o1 o2).get? (s.heap.push o1).objs.size = some o2 := up (up (up (Heap.get?_push_size _ B2.free)))
  have ty : ({ s with heap := zsZ s.heap o1 o2 } : Shared).TypeIs (.ref (gzO2 s.heap o1 o2).objs.size) "zip" := ⟨_, z, rfl⟩
  refine ⟨ty, ?_⟩
  rw [s4] at z ⊢
  rw [s2, s3] at z
  rw [s2, s1] at t
  rw [s3] at o
  rw [s1] at a2
  exact h _ z t o a1 a2 (by rw [Heap.size_push, s4]) fun c u q => up (up (up (up (up q))))
end
end GS

/-! GM4: zip of lists and tuples walked, strict or not. -/
namespace GS
open PySem PySem.Spec PyProof.Rows L2

/-- a list (false) or a tuple (true) -/
def SqK (t : Bool) (K : PySem.W.Frag) (H : Hp) (a : Addr) (xs : List V) : Prop := if t then SqT K H a xs else SqL K H a xs
def ItK (t : Bool) (h : Heap) (i a : Addr) (k : Nat) : Prop := if t then h.IsTupleIter i a k else h.IsListIter i a k
def SeqK (t : Bool) (h : Heap) (a : Addr) (its : Array Value) : Prop := if t then h.IsTuple a its else h.IsList a its
def IsZipK (st : Bool) (h : Heap) (z TI TO : Addr) (f : Value) : Prop := if st then IsZipS h z TI TO f else IsZip h z TI TO f
/-- the items of both, in new pairs -/
def ItZ (K : PySem.W.Frag) (st t1 t2 : Bool) (a b : Addr) : It :=
  ⟨fun i H => ∃ (xs ys : List V) (x y : V), SqK t1 K H a xs ∧ SqK t2 K H b ys ∧ xs[i]? = some x ∧ ys[i]? = some y,
    fun i H v H' => ∃ T x y, v = .ref T ∧ H T = none ∧ H' = upd H T (.tup [x, y]) ∧ (∀ xs, SqK t1 K H a xs → xs[i]? = some x) ∧ ∀ ys, SqK t2 K H b ys → ys[i]? = some y,
    fun i H => ∃ xs ys : List V, SqK t1 K H a xs ∧ SqK t2 K H b ys ∧ (if st then xs.length = i ∧ ys.length = i else i ≤ xs.length ∧ i ≤ ys.length ∧ (xs.length = i ∨ ys.length = i))⟩
section
variable {t : Bool} {h h' : Heap} {i a : Addr} {k : Nat} {its : Array Value}
theorem ItK.at (s : ItK t h i a k) (q : ∀ o, h.get? i = some o → h'.get? i = some o) : ItK t h' i a k := by
  cases t
  · exact (show h.IsListIter i a k from s).at q
  · exact (show h.IsTupleIter i a k from s).at q
theorem ItK.obj (s : ItK t h i a k) : ∃ o, h.get? i = some o ∧ ∀ v, o.data ≠ .cell v := by
  cases t
  · obtain ⟨o, e, _, d⟩ := (show h.IsListIter i a k from s)
    exact ⟨o, e, fun v q => by rw [d] at q; cases q⟩
  · obtain ⟨o, e, _, d⟩ := (show h.IsTupleIter i a k from s)
    exact ⟨o, e, fun v q => by rw [d] at q; cases q⟩
theorem SeqK.lt (s : SeqK t h a its) : a < h.objs.size := by
  cases t
  · obtain ⟨o, e, _⟩ := (show h.IsList a its from s)
    exact Heap.lt_size e
  · obtain ⟨o, e, _⟩ := (show h.IsTuple a its from s)
    exact Heap.lt_size e
theorem draws_k {P : Program} {w : World} {A : Around} (calm : A.handled = none) (t : Bool) (it a : Addr) (ne : a ≠ it) (its : Array Value) :
    Draws P w A it [it, a] its.size (fun i v => its[i]? = some v) (fun i h => ItK t h it a i ∧ SeqK t h a its) := by
  cases t
  · exact Draws.list calm it a ne its
  · exact Draws.tuple calm it a ne its
theorem inv_k {X : Cx} {pins : List (Addr × Obj)} {s : Shared} {σ : L2.St} {H : Hp} {xs : List V} (I : Inv X pins σ H s) (h : SqK t X.K H a xs) : ∃ vs : List Value, Vals xs vs ∧ SeqK t s.heap a vs.toArray := by
  cases t
  · obtain ⟨vs, r, p, _⟩ := I.list h
    exact ⟨vs, r, p.isList⟩
  · obtain ⟨vs, r, p, _⟩ := I.tuple h
    exact ⟨vs, r, p⟩
theorem inj_k {X : Cx} {pins : List (Addr × Obj)} {s : Shared} {σ : L2.St} {H : Hp} {xs ys : List V} (I : Inv X pins σ H s) (h : SqK t X.K H a xs) (q : SqK t X.K H a ys) : xs = ys := by
  cases t
  · exact I.list_inj h q
  · exact I.tuple_inj h q
end
theorem go_zipK {st : Bool} {P : Program} {w : World} {A : Around} {E : Value → Shared → Prop} {s : Shared} {elts : List Expr} {kk : Nat} {pos : Pos} {z TI TO T : Addr} {Q : Unit → Shared → Prop} (at_ : IsZipK st s.heap z TI TO (rawInt T))
    (h : ∀ h', IsZipK st h' z TI TO .none → Heap.SameBut z s.heap h' → Q () { s with heap := h' }) : wpAny (model P w) A (letOwnedTupleGo (.Tuple elts kk pos) (.ref z) (.ref T)) Q E s := by
  cases st
  · exact wpAny_letOwnedTupleGo_zip at_ h
  · replace at_ : IsZipS s.heap z TI TO (rawInt T) := at_
    unfold letOwnedTupleGo
    refine wpAny_bind (wpAny_load at_ ?_)
    have hit : (["enumerate", "zip", "dict_itemiterator", "dict_reverseitemiterator", "odict_iterator", "itertools.zip_longest", "itertools.pairwise"].contains "zip" && (#[rawInt T, .bool false, .bool true, .ref TI, .ref TO] : Array Value)[0]? == some (rawInt T)) = true := by simp
    refine wpAny_ite ?_
    split
    · refine wpAny_bind (wpAny_rule ?_)
      exact wpAny_setField_rec at_ (by simp) fun h' z' sb => h h' z' sb
    · rename_i no
      exact absurd hit no
theorem iter_zipK {st : Bool} {P : Program} {w : World} {A : Around} {E : Value → Shared → Prop} {s : Shared} {z TI TO : Addr} {f : Value} {Q : Value → Shared → Prop} (at_ : IsZipK st s.heap z TI TO f) (h : Q (.ref z) s) : wpAny (model P w) A (pyIter (.ref z)) Q E s := by
  cases st
  · exact wpAny_pyIter_zip at_ h
  · replace at_ : IsZipS s.heap z TI TO f := at_
    have ty : s.TypeIs (.ref z) "zip" := ⟨_, at_, rfl⟩
    refine wpAny_pyIter_slot ty F.slot_zip_iter (wpAny_call_entry F.slot_zip_iter ty F.entry_zip_iter ?_ (F.args_zip_iter_1 _))
    exact wpAny_pure ⟨_, rfl, "zip", _, ty, F.slot_zip_next.lookup, h⟩
section
variable {P : Program} {w : World} {A : Around} {E : Value → Shared → Prop} {s : Shared} {st t1 t2 : Bool} {z TI TO i1 i2 a b : Addr} {xs ys : Array Value} {i : Nat} {a1 a2 : Value}
theorem next_k_item {Q : Option Value → Shared → Prop} (calm : A.handled = none) (S : ZipSep2 z TI TO i1 i2 [i1, a] [i2, b]) (ne1 : a ≠ i1) (ne2 : b ≠ i2) (at_ : IsZipK st s.heap z TI TO .none) (its : IsTupOf2 s.heap TI (.ref i1) (.ref i2)) (own : IsTupOf2 s.heap TO a1 a2)
    (s1 : ItK t1 s.heap i1 a i) (s2 : ItK t2 s.heap i2 b i) (q1 : SeqK t1 s.heap a xs) (q2 : SeqK t2 s.heap b ys) (l1 : i < xs.size) (l2 : i < ys.size)
    (h : ∀ x y h' tk, xs[i]? = some x → ys[i]? = some y → IsZipK st h' z TI TO (rawInt s.heap.objs.size) → IsTupOf2 h' TO x y → ItK t1 h' i1 a (i + 1) → ItK t2 h' i2 b (i + 1) → IsTupOf2 h' s.heap.objs.size x y →
      (∀ c o, c ≠ z → c ≠ TO → c ≠ i1 → c ≠ i2 → s.heap.get? c = some o → h'.get? c = some o) → Q (some (.ref s.heap.objs.size)) { s with heap := h', toks := tk }) : wpAny (model P w) A (pyNext (.ref z)) Q E s := by
  have D1 := draws_k (P := P) (w := w) (A := A.in1) calm t1 i1 a ne1 xs
  have D2 := draws_k (P := P) (w := w) (A := A.in1) calm t2 i2 b ne2 ys
  cases st
  · exact wpAny_pyNext_zipD2_item S D1 D2 at_ its own ⟨s1, q1⟩ ⟨s2, q2⟩ l1 l2 fun x y h' tk c1 c2 c3 c4 c5 c6 c7 _ c9 => h x y h' tk c1 c2 c3 c4 c5.1 c6.1 c7 c9
  · exact next_zipS_item S D1 D2 at_ its own ⟨s1, q1⟩ ⟨s2, q2⟩ l1 l2 fun x y h' tk c1 c2 c3 c4 c5 c6 c7 _ c9 => h x y h' tk c1 c2 c3 c4 c5.1 c6.1 c7 c9
theorem next_k_end {Q : Option Value → Shared → Prop} (calm : A.handled = none) (S : ZipSep2 z TI TO i1 i2 [i1, a] [i2, b]) (ne1 : a ≠ i1) (ne2 : b ≠ i2) (at_ : IsZipK st s.heap z TI TO .none) (its : IsTupOf2 s.heap TI (.ref i1) (.ref i2)) (own : IsTupOf2 s.heap TO a1 a2)
    (s1 : ItK t1 s.heap i1 a i) (s2 : ItK t2 s.heap i2 b i) (q1 : SeqK t1 s.heap a xs) (q2 : SeqK t2 s.heap b ys) (l : if st then xs.size = i ∧ ys.size = i else i ≤ xs.size ∧ i ≤ ys.size ∧ (xs.size = i ∨ ys.size = i))
    (h : ∀ h' tk, (∀ c o, c ≠ z → c ≠ TO → c ≠ i1 → c ≠ i2 → s.heap.get? c = some o → h'.get? c = some o) → Q none { s with heap := h', toks := tk }) : wpAny (model P w) A (pyNext (.ref z)) Q E s := by
  have D1 := draws_k (P := P) (w := w) (A := A.in1) calm t1 i1 a ne1 xs
  have D2 := draws_k (P := P) (w := w) (A := A.in1) calm t2 i2 b ne2 ys
  cases st
  · obtain ⟨m1, m2, m3⟩ : i ≤ xs.size ∧ i ≤ ys.size ∧ (xs.size = i ∨ ys.size = i) := l
    exact wpAny_pyNext_zipD2_end S D1 D2 at_ its own ⟨s1, q1⟩ ⟨s2, q2⟩ m1 m2 (m3.imp Eq.symm Eq.symm) h
  · obtain ⟨m1, m2⟩ : xs.size = i ∧ ys.size = i := l
    have e : ys.size = xs.size := m2.trans m1.symm
    rw [e] at D2
    refine next_zipS_end calm S D1 D2 at_ its own ?_ ?_ fun h' kp => h h' s.toks kp
    · rw [m1]; exact ⟨s1, q1⟩
    · rw [m1]; exact ⟨s2, q2⟩
end
theorem turn_k {P : Program} {w : World} {K : PySem.W.Frag} {st t1 t2 : Bool} {elts : List Expr} {kk : Nat} {tpos : Pos} {a b z TI TO i1 i2 : Addr} (S : ZipSep2 z TI TO i1 i2 [i1, a] [i2, b]) (ne1 : a ≠ i1) (ne2 : b ≠ i2) :
    Turn P w K (.Tuple elts kk tpos) (ItZ K st t1 t2 a b) [z, TI, TO, i1, i2] z (fun i h => IsZipK st h z TI TO .none ∧ IsTupOf2 h TI (.ref i1) (.ref i2) ∧ (∃ x y, IsTupOf2 h TO x y) ∧ ItK t1 h i1 a i ∧ ItK t2 h i2 b i) where
  mem := by simp
  obj := fun i h ⟨hz, hI, ⟨x, y, hO⟩, h1, h2⟩ c hc => by
    have zo : ∃ o, h.get? z = some o ∧ ∀ v, o.data ≠ .cell v := by
      cases st
      · exact ⟨_, hz, fun v q => nomatch q⟩
      · exact ⟨_, hz, fun v q => nomatch q⟩
    simp only [List.mem_cons, List.not_mem_nil, or_false] at hc
    rcases hc with rfl | rfl | rfl | rfl | rfl
    · exact zo
    · exact ⟨_, hI, fun v q => nomatch q⟩
    · exact ⟨_, hO, fun v q => nomatch q⟩
    · exact h1.obj
    · exact h2.obj
  keep := fun i h h' ⟨hz, hI, ⟨x, y, hO⟩, h1, h2⟩ k => by
    refine ⟨?_, k TI (by simp) _ hI, ⟨x, y, k TO (by simp) _ hO⟩, h1.at fun o q => k i1 (by simp) o q, h2.at fun o q => k i2 (by simp) o q⟩
    cases st
    · exact k z (by simp) _ hz
    · exact k z (by simp) _ hz
  item := by
    intro X hP hw hK hc i pins s σ H E I hf ⟨hz, hI, ⟨x0, y0, hO⟩, h1, h2⟩ ⟨xs, ys, x, y, qx, qy, ex, ey⟩
    subst hP hw hK
    obtain ⟨us, ru, p1⟩ := inv_k I qx
    obtain ⟨ws, rw', p2⟩ := inv_k I qy
    obtain ⟨u, eu, r1⟩ := ru.get ex
    obtain ⟨w2, ew, r2⟩ := rw'.get ey
    have l1 : i < us.toArray.size := by simpa using (List.getElem?_eq_some_iff.mp eu).1
    have l2 : i < ws.toArray.size := by simpa using (List.getElem?_eq_some_iff.mp ew).1
    have zlt : z < s.heap.objs.size := by
      cases st
      · exact Heap.lt_size hz
      · exact Heap.lt_size hz
    have lt1 : i1 < s.heap.objs.size := let ⟨_, e, _⟩ := h1.obj; Heap.lt_size e
    have lt2 : i2 < s.heap.objs.size := let ⟨_, e, _⟩ := h2.obj; Heap.lt_size e
    refine next_k_item (I.ok.hd hc) S ne1 ne2 hz hI hO h1 h2 p1 p2 l1 l2 fun u' w' h' tk e1 e2 z' O' h1' h2' new kept => ⟨_, rfl, go_zipK (s := { s with heap := h', toks := tk }) z' fun h'' z'' sb => ?_⟩
    have eu' : u' = u := by
      have e1 : us[i]? = some u' := by simpa using e1
      rw [eu] at e1
      exact (Option.some.inj e1).symm
    have ew' : w' = w2 := by
      have e2 : ws[i]? = some w' := by simpa using e2
      rw [ew] at e2
      exact (Option.some.inj e2).symm
    subst eu' ew'
    have off : ∀ c, c ≠ z → ∀ o, h'.get? c = some o → h''.get? c = some o := fun c n o q => (sb.2 c n).trans q
    have there : h''.get? s.heap.objs.size = some { cls := .type "tuple", data := .seq #[u', w'] } := off _ (Nat.ne_of_gt zlt) _ new
    have good : ObjOk X.prog X.w (upd H s.heap.objs.size (.tup [x, y])) h'' s.heap.objs.size (.tup [x, y]) := ⟨by show 2 ≤ sizeLine; decide, [u', w'], .cons r1 (.cons r2 .nil), ⟨_, there, rfl, _, rfl⟩⟩
    have I1 : Inv X pins σ (upd H s.heap.objs.size (.tup [x, y])) { s with heap := h'', toks := tk } :=
      I.turnedNew (t' := tk) (ch := [z, TI, TO, i1, i2]) (fun c o n q => by
        simp only [List.mem_cons, List.not_mem_nil, or_false, not_or] at n
        exact off c n.1 o (kept c o n.1 n.2.2.1 n.2.2.2.1 n.2.2.2.2 q)) hf (Nat.le_refl _) good
    have nTI : TI ≠ i1 ∧ TI ≠ i2 := ⟨S.TIi1, S.TIi2⟩
    refine ⟨.ref s.heap.objs.size, _, I1, rfl, ⟨_, x, y, rfl, I.hok.fresh (Nat.le_refl _), rfl, fun l hl => by rw [inj_k I hl qx]; exact ex, fun l hl => by rw [inj_k I hl qy]; exact ey⟩,
      ⟨z'', off _ S.TIz _ (kept _ _ S.TIz S.TITO nTI.1 nTI.2 hI), ⟨u', w', off _ S.TOz _ O'⟩, h1'.at fun o q => off _ (Ne.symm S.zi1) o q, h2'.at fun o q => off _ (Ne.symm S.zi2) o q⟩, fun c hcm => ?_⟩
    have lt : c < s.heap.objs.size := by
      simp only [List.mem_cons, List.not_mem_nil, or_false] at hcm
      rcases hcm with rfl | rfl | rfl | rfl | rfl
      · exact zlt
      · exact Heap.lt_size hI
      · exact Heap.lt_size hO
      · exact lt1
      · exact lt2
    rw [upd_ne (Nat.ne_of_lt lt)]
    exact (hf c hcm).1
  done := by
    intro X hP hw hK hc i pins s σ H E I hf ⟨hz, hI, ⟨x0, y0, hO⟩, h1, h2⟩ ⟨xs, ys, qx, qy, len⟩
    subst hP hw hK
    obtain ⟨us, ru, p1⟩ := inv_k I qx
    obtain ⟨ws, rw', p2⟩ := inv_k I qy
    have len' : if st then us.toArray.size = i ∧ ws.toArray.size = i else i ≤ us.toArray.size ∧ i ≤ ws.toArray.size ∧ (us.toArray.size = i ∨ ws.toArray.size = i) := by
      rw [List.size_toArray, List.size_toArray, ← ru.length, ← rw'.length]
      exact len
    exact next_k_end (I.ok.hd hc) S ne1 ne2 hz hI hO h1 h2 p1 p2 len' fun h' tk kept => ⟨rfl, I.turnedL (t' := tk) (ch := [z, TI, TO, i1, i2]) (fun c o n q => by
      simp only [List.mem_cons, List.not_mem_nil, or_false, not_or] at n
      exact kept c o n.1 n.2.2.1 n.2.2.2.1 n.2.2.2.2 q) hf⟩
  self := fun A i s Q E h q => iter_zipK h.1 q

/-- zip(a, b), zip(a, b, strict=True): what is walked -/
def iZipK (K : PySem.W.Frag) (st : Bool) (ta : TA) : TI := fun σ H R => ta σ H fun vs H1 => ∃ a b t1 t2 xs ys, vs = [.ref a, .ref b] ∧ SqK t1 K H1 a xs ∧ SqK t2 K H1 b ys ∧ R (ItZ K st t1 t2 a b) H1
def kwStrict (st : Bool) (kp cp : Pos) : List Keyword := if st then [⟨some (Str.ofString "strict"), .Constant (.bool true) 0 cp, kp⟩] else []
section
variable {X : Cx} {pins : List (Addr × Obj)} {s : Shared} {σ : L2.St} {H : Hp}
theorem begins_k (t : Bool) (a : Addr) (its : Array Value) : ∃ o, Begins (.ref a) o (fun h => SeqK t h a its) ∧ (∀ (h : Heap) (i : Addr), h.get? i = some o → ItK t h i a 0) := by
  cases t
  · exact ⟨_, begins_list a its, fun h i q => ⟨_, q, rfl, rfl⟩⟩
  · exact ⟨_, begins_tuple a its, fun h i q => ⟨_, q, rfl, rfl⟩⟩
theorem made_k {st t1 t2 : Bool} {elts : List Expr} {kk : Nat} {tpos : Pos} {a b : Addr} {xs ys : List V} {R : It → Hp → Prop} (I : Inv X pins σ H s) (qx : SqK t1 X.K H a xs) (qy : SqK t2 X.K H b ys) (q : R (ItZ X.K st t1 t2 a b) H) :
    wpAny (model X.prog X.w) X.A (call (.type "zip") [.ref a, .ref b] (if st then [(Str.ofString "strict", .bool true)] else [])) (fun v s1 => wpAny (model X.prog X.w) X.A (pyIter v) (PIE X pins σ (.Tuple elts kk tpos) R) X.xe s1) X.xe s := by
  obtain ⟨us, ru, p1⟩ := inv_k I qx
  obtain ⟨ws, rw', p2⟩ := inv_k I qy
  obtain ⟨o1, B1, k1⟩ := begins_k t1 a us.toArray
  obtain ⟨o2, B2, k2⟩ := begins_k t2 b ws.toArray
  have la : a < s.heap.objs.size := p1.lt
  have lb : b < s.heap.objs.size := p2.lt
  generalize hn : s.heap.objs.size = n at la lb
  have S : ZipSep2 (n + 4) (n + 2) (n + 3) n (n + 1) [n, a] [n + 1, b] := by
    have ne : ∀ {x y : Nat}, (x < y ∨ y < x) → @Ne Addr x y := fun h => h.elim Nat.ne_of_lt Nat.ne_of_gt
    have nin : ∀ {c x y : Addr}, c ≠ x → c ≠ y → c ∉ [x, y] := fun h1 h2 z => by
      rcases List.mem_cons.mp z with z | z
      · exact h1 z
      · exact h2 (List.mem_singleton.mp z)
    replace la : Nat.lt a n := la
    replace lb : Nat.lt b n := lb
    have la' : Nat.lt a (n + 1) := Nat.lt_succ_of_lt la
    exact ⟨ne (by omega), ne (by omega), ne (by omega), ne (by omega), by simp, nin (ne (by omega)) (ne (.inr (Nat.lt_of_lt_of_le la (by omega)))), nin (ne (by omega)) (ne (.inr (Nat.lt_of_lt_of_le la (by omega)))), ne (by omega), by simp,
      nin (ne (by omega)) (ne (.inr (Nat.lt_of_lt_of_le lb (by omega)))), nin (ne (by omega)) (ne (.inr (Nat.lt_of_lt_of_le lb (by omega)))), nin (ne (by omega)) (ne (.inr lb)), nin (ne (by omega)) (ne (.inr la'))⟩
  have after : ∀ h', IsZipK st h' (n + 4) (n + 2) (n + 3) .none → IsTupOf2 h' (n + 2) (.ref n) (.ref (n + 1)) → IsTupOf2 h' (n + 3) .none .none → h'.get? n = some o1 → h'.get? (n + 1) = some o2 → (∀ c o, s.heap.get? c = some o → h'.get? c = some o) →
      wpAny (model X.prog X.w) X.A (pyIter (.ref (n + 4))) (PIE X pins σ (.Tuple elts kk tpos) R) X.xe { s with heap := h' } := fun h' hz hI hO g1 g2 kept => by
    have I2 : Inv X pins σ H { s with heap := h' } := I.kept (t' := s.toks) kept
    refine iter_zipK (s := { s with heap := h' }) hz ⟨n + 4, [n + 4, n + 2, n + 3, n, n + 1], _, _, H, rfl, I2, turn_k S (Nat.ne_of_lt la) (Nat.ne_of_lt (Nat.lt_succ_of_lt lb)), ⟨hz, hI, ⟨_, _, hO⟩, k1 _ _ g1, k2 _ _ g2⟩, fun c hc => ?_, q⟩
    have le : s.heap.objs.size ≤ c := by
      rw [hn]
      simp only [List.mem_cons, List.not_mem_nil, or_false] at hc
      rcases hc with rfl | rfl | rfl | rfl | rfl
      · exact Nat.le_add_right _ _
      · exact Nat.le_add_right _ _
      · exact Nat.le_add_right _ _
      · exact Nat.le_refl _
      · exact Nat.le_add_right _ _
    exact I.fpOk le (I.hok.fresh le)
  cases st
  · exact zip_begins2 B1 B2 p1 p2 fun h' hz hI hO g1 g2 _ kept => by
      rw [hn] at hz hI hO g1 g2 ⊢
      exact after h' hz hI hO g1 g2 kept
  · exact zipS_begins B1 B2 p1 p2 fun h' hz hI hO g1 g2 _ kept => by
      rw [hn] at hz hI hO g1 g2 ⊢
      exact after h' hz hI hO g1 g2 kept
/-- a call of a built-in type with values by places and by names -/
theorem call_typeKw {M : Model} {A : Around} {E : Value → Shared → Prop} {s : Shared} {env : Env} {pos : Pos} {T : String} {e : Expr} {rest : List Expr} {kws : List Keyword} {Q : Value → Shared → Prop}
    (h : wpAny M A (spliced (backTo pos (starEach (e :: rest) env))) (fun vs s1 => wpAny M A (evalAll ((backToKw pos (keywordEach kws env)).map (·.2))) (fun ks s2 => wpAny M A (call (.type T) vs (((backToKw pos (keywordEach kws env)).filterMap (·.1)).zip ks)) Q E s2) E s1) E s)
    (he : backTo pos (starEach (e :: rest) env) = (false, eval e env) :: backTo pos (starEach rest env)) (plain : (backTo pos (starEach (e :: rest) env)).any (·.1) = false)
    (all : (backToKw pos (keywordEach kws env)).all (·.1.isSome) = true) (any : (backToKw pos (keywordEach kws env)).any (·.1.isNone) = false) :
    wpAny M A (callWith pos (.type T) [] (backTo pos (starEach (e :: rest) env)) (backToKw pos (keywordEach kws env))) Q E s := by
  unfold callWith
  rw [he] at h plain ⊢
  refine wpAny_bind (wpAny_holding (wpAny_mono (evalArgs_kwB (Q := fun a s1 => wpAny M A (call (.type T) a.pos a.kw) Q E s1) all h) (fun a s1 h1 => wpAny_bind (wpAny_standAt ?_)) fun _ _ z => z))
  rw [plain, any]
  refine wpAny_bind (wpAny_pure ?_)
  exact wpAny_bind (wpAny_mono h1 (fun r s2 q => wpAny_bind (wpAny_holding (wpAny_point (wpAny_pure q)))) fun _ _ z => z)
theorem pi_zipK {st : Bool} {e e2 : Expr} {ta : TA} {p pos tpos kp cp : Pos} {elts : List Expr} {kk : Nat} (hg : Gl X "zip") (hm : X.mg "zip" = none) (ha : L2.PA X [e, e2] ta) (hs : starEach [e, e2] X.env = (false, eval e X.env) :: starEach [e2] X.env)
    (hp : (backTo pos (starEach [e, e2] X.env)).any (·.1) = false) : L2.PI X (.Tuple elts kk tpos) (.Call (.Name "zip" p) [e, e2] (kwStrict st kp cp) pos) (iZipK X.K st ta) := by
  refine ⟨fun pins s σ H R I h => ?_⟩
  show wpAny _ _ (eval (.Name "zip" p) X.env >>= fun f => callWith pos f [] (backTo pos (starEach [e, e2] X.env)) (backToKw pos (keywordEach (kwStrict st kp cp) X.env))) _ _ _
  refine wpAny_bind (ld_blt I hg hm PyProof.Rows.boot_zip (call_typeKw (thn (ha.run pos pins s σ H _ I h) fun us s1 ⟨vs, H1, I1, r1, q1⟩ => ?_) (by rw [hs]; rfl) hp ?_ ?_))
  · obtain ⟨a, b, t1, t2, xs, ys, ex, qx, qy, q⟩ := q1
    subst ex
    cases r1 with
    | cons r rr =>
      cases rr with
      | cons r' rr =>
        cases rr
        cases r
        cases r'
        have fin := made_k (elts := elts) (kk := kk) (tpos := tpos) I1 qx qy q
        cases st
        · exact kws_nil fin
        · refine kws_cons ?_
          exact wpAny_pure (kws_nil fin)
  · cases st <;> rfl
  · cases st <;> rfl
end
end GS

/-! GM5: a zip whose pairs are kept: each turn makes a new one. -/
namespace GS
open PySem PySem.Spec PyProof.Rows L2

/-- the pair handed out first is still there -/
def IsZipH (st : Bool) (h : Heap) (z TI TO T : Addr) (f : Bool) : Prop := h.get? z = some { cls := .type "zip", data := .fields #[rawInt T, .bool f, .bool st, .ref TI, .ref TO] }
section
variable {prog : Program} {w : World} {A : Around} {E : Value → Shared → Prop} {s : Shared} {st t1 t2 f : Bool} {z TI TO T i1 i2 a b : Addr} {xs ys : Array Value} {i : Nat} {oT : Obj}
theorem notFree {Q : Bool → Shared → Prop} (at_ : IsZipH st s.heap z TI TO T f) (live : s.heap.get? T = some oT) (h : ∀ h', IsZipH st h' z TI TO T true → Heap.SameBut z s.heap h' → Q false { s with heap := h' }) :
    wpAny (model prog w) A (Builtin.SmallTypes.ownedTupleIsFree (.ref z)) Q E s := by
  unfold Builtin.SmallTypes.ownedTupleIsFree
  refine wpAny_bind (wpAny_field at_ rfl (x := rawInt T) rfl ?_)
  show wpAny _ _ (loadIfAlive ((T : Int).toNat) >>= fun o => _) _ _ _
  rw [Int.toNat_natCast]
  refine wpAny_bind (PySem.W.kdx_alive live ?_)
  simp only [Option.isNone_some, Bool.false_eq_true, if_false]
  refine wpAny_bind (wpAny_field at_ rfl (x := .bool f) rfl ?_)
  cases f
  · rw [if_pos (show (Value.bool false != Value.bool true) = true from rfl)]
    exact wpAny_bind (wpAny_setField_rec at_ (by simp) fun h1 z1 k1 => wpAny_pure (h h1 z1 k1))
  · rw [if_neg (show ¬ ((Value.bool true != Value.bool true) = true) from Bool.false_ne_true)]
    exact wpAny_pure (h s.heap at_ (Heap.SameBut.refl _ _))
/-- drawing one item, strict or not -/
theorem drawn_item {it : Addr} {fp : List Addr} {n : Nat} {P : Nat → Value → Prop} {St : Nat → Heap → Prop} {Q : Option Value → Shared → Prop} (D : Draws prog w A it fp n P St) (lt : i < n) (at_ : St i s.heap) (h : ∀ x h' tk, P i x → St (i + 1) h' → Heap.SameBut it s.heap h' → Q (some x) { s with heap := h', toks := tk }) :
    wpAny (model prog w) A (if st = true then Builtin.SmallTypes.nextOrEnd (.ref it) else (do return some (← Builtin.SmallTypes.nextOf (.ref it)))) Q E s := by
  cases st
  · exact wpAny_bind (D.item i s _ _ lt at_ fun x h' tk p q k => wpAny_pure (h x h' tk p q k))
  · exact orEnd_item D lt at_ h
theorem held_item {Q : Value → Shared → Prop} (calm : A.handled = none) (S : ZipSep2 z TI TO i1 i2 [i1, a] [i2, b]) (ne1 : a ≠ i1) (ne2 : b ≠ i2) (at_ : IsZipH st s.heap z TI TO T f) (live : s.heap.get? T = some oT) (its : IsTupOf2 s.heap TI (.ref i1) (.ref i2))
    (s1 : ItK t1 s.heap i1 a i) (s2 : ItK t2 s.heap i2 b i) (q1 : SeqK t1 s.heap a xs) (q2 : SeqK t2 s.heap b ys) (l1 : i < xs.size) (l2 : i < ys.size)
    (h : ∀ x y h' tk, xs[i]? = some x → ys[i]? = some y → IsZipH st h' z TI TO T true → ItK t1 h' i1 a (i + 1) → ItK t2 h' i2 b (i + 1) → IsTupOf2 h' s.heap.objs.size x y → (∀ c o, c ≠ z → c ≠ i1 → c ≠ i2 → s.heap.get? c = some o → h'.get? c = some o) →
      Q (.ref s.heap.objs.size) { s with heap := h', toks := tk }) :
    wpAny (model prog w) A (Builtin.«zip.__next__» ⟨[.ref z], []⟩) (fun fin s' => ∃ v, fin = .done (.ret v) ∧ Q v s') E s := by
  have D1 := draws_k (P := prog) (w := w) (A := A) calm t1 i1 a ne1 xs
  have D2 := draws_k (P := prog) (w := w) (A := A) calm t2 i2 b ne2 ys
  obtain ⟨hp, gn, dr, tk0, os⟩ := s
  show wpAny _ _ (field (.ref z) 2 >>= fun b => _) _ _ _
  refine wpAny_bind (wpAny_field at_ rfl (x := .bool st) rfl ?_)
  show wpAny _ _ (field (.ref z) 3 >>= fun t => _) _ _ _
  refine wpAny_bind (wpAny_field at_ rfl (x := .ref TI) rfl (wpAny_bind (wpAny_seqItems its rfl (wpAny_bind (notFree at_ live fun g0 z0 k0 => ?_)))))
  replace k0 : Heap.SameBut z hp g0 := k0
  simp only [Bool.false_eq_true, if_false]
  have stB : (Value.bool st == Value.bool true) = st := by cases st <;> rfl
  rw [stB]
  refine wpAny_bind ?_
  rw [← Array.forIn_toList]
  simp only [List.forIn_cons, List.forIn_nil]
  refine wpAny_bind (wpAny_bind (wpAny_holding ?_))
  refine drawn_item (s := ⟨g0, gn, dr, tk0, os⟩) D1 l1 (D1.over ⟨s1, q1⟩ k0 S.zf1) fun x g1 t1' px e1 k1 => wpAny_pure ?_
  replace k1 : Heap.SameBut i1 g0 g1 := k1
  refine wpAny_bind (wpAny_bind (wpAny_holding ?_))
  refine drawn_item (s := ⟨g1, gn, dr, t1', os⟩) D2 l2 (D2.over (D2.over ⟨s2, q2⟩ k0 S.zf2) k1 S.sep1_2) fun y g2 t2' py e2 k2 => wpAny_pure (wpAny_pure ?_)
  replace k2 : Heap.SameBut i2 g1 g2 := k2
  show wpAny _ _ (newTuple [x, y] >>= fun v => _) _ _ _
  refine wpAny_bind (wpAny_newTuple (wpAny_pure ⟨_, rfl, ?_⟩))
  have size : g2.objs.size = hp.objs.size := by rw [k2.1, k1.1, k0.1]
  have z2 : IsZipH st g2 z TI TO T true := k2.extBut _ _ S.zi2 (k1.extBut _ _ S.zi1 z0)
  have e1' := D1.over e1 k2 S.sep2_1
  have new : IsTupOf2 (g2.push { cls := .type "tuple", data := .seq #[x, y] }) g2.objs.size x y := Heap.get?_push_size _ rfl
  show Q (.ref g2.objs.size) _
  rw [size] at new ⊢
  exact h x y _ t2' px py (Heap.get?_push_of_some _ z2) (e1'.1.at fun o q => Heap.get?_push_of_some _ q) (e2.1.at fun o q => Heap.get?_push_of_some _ q) new fun c o c1 c2 c3 q => Heap.get?_push_of_some _ (k2.extBut _ _ c3 (k1.extBut _ _ c2 (k0.extBut _ _ c1 q)))
theorem held_end {Q : PySem.Fin → Shared → Prop} (calm : A.handled = none) (S : ZipSep2 z TI TO i1 i2 [i1, a] [i2, b]) (ne1 : a ≠ i1) (ne2 : b ≠ i2) (at_ : IsZipH st s.heap z TI TO T f) (live : s.heap.get? T = some oT) (its : IsTupOf2 s.heap TI (.ref i1) (.ref i2))
    (s1 : ItK t1 s.heap i1 a i) (s2 : ItK t2 s.heap i2 b i) (q1 : SeqK t1 s.heap a xs) (q2 : SeqK t2 s.heap b ys) (l : xs.size = i ∧ (st = true → ys.size = i))
    (h : ∀ h' tk e, (∀ c o, c ≠ z → c ≠ i1 → c ≠ i2 → s.heap.get? c = some o → h'.get? c = some o) → (∃ o, h'.get? e = some o ∧ o.cls = .type "StopIteration") → E (.ref e) { s with heap := h', toks := tk }) :
    wpAny (model prog w) A (Builtin.«zip.__next__» ⟨[.ref z], []⟩) Q E s := by
  have D1 := draws_k (P := prog) (w := w) (A := A) calm t1 i1 a ne1 xs
  have D2 := draws_k (P := prog) (w := w) (A := A) calm t2 i2 b ne2 ys
  obtain ⟨hp, gn, dr, tk0, os⟩ := s
  obtain ⟨m1, m2⟩ := l
  subst m1
  show wpAny _ _ (field (.ref z) 2 >>= fun b => _) _ _ _
  refine wpAny_bind (wpAny_field at_ rfl (x := .bool st) rfl ?_)
  show wpAny _ _ (field (.ref z) 3 >>= fun t => _) _ _ _
  refine wpAny_bind (wpAny_field at_ rfl (x := .ref TI) rfl (wpAny_bind (wpAny_seqItems its rfl (wpAny_bind (notFree at_ live fun g0 z0 k0 => ?_)))))
  replace k0 : Heap.SameBut z hp g0 := k0
  simp only [Bool.false_eq_true, if_false]
  have stB : (Value.bool st == Value.bool true) = st := by cases st <;> rfl
  rw [stB]
  refine wpAny_bind ?_
  rw [← Array.forIn_toList]
  simp only [List.forIn_cons, List.forIn_nil]
  refine wpAny_bind (wpAny_bind (wpAny_holding ?_))
  cases st
  · refine wpAny_bind (D1.done ⟨g0, gn, dr, tk0, os⟩ _ _ (D1.over ⟨s1, q1⟩ k0 S.zf1) fun g1 e k1 is => ?_)
    exact h g1 tk0 e (fun c o c1 c2 c3 q => k1 _ _ c2 (k0.extBut _ _ c1 q)) is
  · have m2 := m2 rfl
    refine orEnd_end (s := ⟨g0, gn, dr, tk0, os⟩) D1 (D1.over ⟨s1, q1⟩ k0 S.zf1) fun g1 k1 => ?_
    replace k1 : Heap.ExtBut i1 g0 g1 := k1
    refine wpAny_bind ?_
    show wpAny _ _ (forIn [(Value.ref i2, 1)] PUnit.unit _ >>= fun u => _) _ _ _
    simp only [List.forIn_cons, List.forIn_nil]
    refine wpAny_bind (wpAny_bind (wpAny_bind ?_))
    have st2 : ItK t2 hp i2 b ys.size ∧ SeqK t2 hp b ys := ⟨m2 ▸ s2, q2⟩
    refine orEnd_end (s := ⟨g1, gn, dr, tk0, os⟩) D2 (D2.frame _ _ _ st2 fun c hc o q => k1 _ _ (fun e => S.sep1_2 (e ▸ hc)) (k0.extBut _ _ (fun e => S.zf2 (e ▸ hc)) q)) fun g3 k3 => ?_
    replace k3 : Heap.ExtBut i2 g1 g3 := k3
    refine wpAny_pure (wpAny_pure (wpAny_bind (wpAny_rule ?_)))
    exact stop_now (s := ⟨g3, gn, dr, tk0, os⟩) calm fun h' e kp is => h h' tk0 e (fun c o c1 c2 c3 q => kp _ _ (k3 _ _ c3 (k1 _ _ c2 (k0.extBut _ _ c1 q)))) is
end
end GS

/-! GM6: list(zip(a, b)), list(zip(a, b, strict=True)). -/
namespace GS
open PySem PySem.Spec PyProof.Rows L2

theorem zip_no_len : typeLookup (.type "zip") "__len__" = pure none := by rw [typeLookup_type, builtinLookup_eq_fast]; kernel_rfl
theorem zip_no_hint : typeLookup (.type "zip") "__length_hint__" = pure none := by rw [typeLookup_type, builtinLookup_eq_fast]; kernel_rfl
/-- the pairs as, as they stand in h: younger than lo, one behind the other -/
structure PairsAt (lo : Addr) (h : Heap) (as : List Addr) (xs ys : List Value) : Prop where
  rise : as.Pairwise (· < ·)
  above : ∀ a ∈ as, lo < a
  there : ∀ (j : Nat) (a : Addr), as[j]? = some a → ∃ x y, xs[j]? = some x ∧ ys[j]? = some y ∧ IsTupOf2 h a x y
theorem PairsAt.mv {lo : Addr} {h h' : Heap} {as : List Addr} {xs ys : List Value} (p : PairsAt lo h as xs ys) (k : ∀ a ∈ as, ∀ o, h.get? a = some o → h'.get? a = some o) : PairsAt lo h' as xs ys :=
  ⟨p.rise, p.above, fun j a e => by
    obtain ⟨x, y, e1, e2, q⟩ := p.there j a e
    exact ⟨x, y, e1, e2, k a (List.mem_of_getElem? e) _ q⟩⟩
section
variable {prog : Program} {w : World} {A : Around} {E : Value → Shared → Prop} {st t1 t2 : Bool} {z TI TO i1 i2 a b S : Addr} {xs ys : List Value} {R : Result → Shared → Prop}
/-- a zip, its pairs kept from the first turn on -/
def ZState (st : Bool) (h : Heap) (z TI TO i1 i2 S : Addr) (i : Nat) : Prop := (i = 0 ∧ IsZipK st h z TI TO .none ∧ ∃ x y, IsTupOf2 h TO x y) ∨ ∃ T f oT, IsZipH st h z TI TO T f ∧ h.get? T = some oT ∧ T ≠ z ∧ T ≠ i1 ∧ T ≠ i2 ∧ T ≠ S
theorem list_loop (calm : A.handled = none) (D : ZipSep2 z TI TO i1 i2 [i1, a] [i2, b]) (ne1 : a ≠ i1) (ne2 : b ≠ i2) (g0 : Array GenState) (d0 : Drawn) (o0 : OsState) (Sz : S ≠ z) (STI : S ≠ TI) (STO : S ≠ TO) (S1 : S ≠ i1) (S2 : S ≠ i2) (Sa : S ≠ a) (Sb : S ≠ b) (lo : Addr) (old : Heap) (len : ys.length = xs.length) (fit : xs.length ≤ sizeLine)
    (oz : old.get? z = none) (oTO : old.get? TO = none) (o1 : old.get? i1 = none) (o2 : old.get? i2 = none) (oS : old.get? S = none) (lows : ∀ c, c = z ∨ c = TO ∨ c = i1 ∨ c = i2 ∨ c = S → ¬ lo < c)
    (go : ∀ h tk as c, PairsAt lo h as xs ys → as.length = xs.length → h.get? S = some { cls := .type "list", data := .seq (as.map Value.ref).toArray c } → (∀ b o, old.get? b = some o → h.get? b = some o) → R (.ok (.ret .none)) ⟨h, g0, d0, tk, o0⟩) :
    ∀ (k i : Nat) (s : Shared) (as : List Addr) (c : Nat), xs.length - i = k → i ≤ xs.length → IsTupOf2 s.heap TI (.ref i1) (.ref i2) → ItK t1 s.heap i1 a i → ItK t2 s.heap i2 b i → SeqK t1 s.heap a xs.toArray → SeqK t2 s.heap b ys.toArray → ZState st s.heap z TI TO i1 i2 S i →
      as.length = i → PairsAt lo s.heap as xs ys → s.heap.get? S = some { cls := .type "list", data := .seq (as.map Value.ref).toArray c } → (∀ b o, old.get? b = some o → s.heap.get? b = some o) → lo < s.heap.objs.size → s.gens = g0 → s.drawn = d0 → s.os = o0 →
      codeAny (model prog w) A (.builtin "list.extend.loop" ⟨[.ref S, .ref z, .none], []⟩) R s := by
  intro k
  have far : ∀ {h : Heap} {as : List Addr}, PairsAt lo h as xs ys → ∀ a ∈ as, a ≠ z ∧ a ≠ TO ∧ a ≠ i1 ∧ a ≠ i2 ∧ a ≠ S := fun {h as} p a ha => by
    have q := p.above a ha
    exact ⟨fun e => lows z (.inl rfl) (e ▸ q), fun e => lows TO (.inr (.inl rfl)) (e ▸ q), fun e => lows i1 (.inr (.inr (.inl rfl))) (e ▸ q), fun e => lows i2 (.inr (.inr (.inr (.inl rfl)))) (e ▸ q), fun e => lows S (.inr (.inr (.inr (.inr rfl)))) (e ▸ q)⟩
  have ty : ∀ {h : Heap} {s : Shared}, s.heap = h → ∀ {i}, ZState st h z TI TO i1 i2 S i → s.TypeIs (.ref z) "zip" := fun {h s} e i q => by
    subst e
    rcases q with ⟨_, q, _⟩ | ⟨T, f, oT, q, _⟩
    · cases st
      · exact ⟨_, q, rfl⟩
      · exact ⟨_, q, rfl⟩
    · exact ⟨_, q, rfl⟩
  induction k with
  | zero =>
    intro i s as c hk hi hTI h1 h2 q1 q2 zs hl pa hS kept lo' eg ed eo
    have e : i = xs.length := by omega
    subst e
    refine codeAny_builtin F.entry_extend_loop ?_
    rw [Around.under_plainId F.plain_extend_loop _]
    show wpAny _ A.in1 (pyNext (.ref z) >>= fun r => _) _ _ s
    have fin : ∀ h' tk, (∀ c o, c ≠ z → c ≠ TO → c ≠ i1 → c ≠ i2 → s.heap.get? c = some o → h'.get? c = some o) → R (.ok (.ret .none)) { s with heap := h', toks := tk } := fun h' tk kp => by
      have e : ({ s with heap := h', toks := tk } : Shared) = ⟨h', g0, d0, tk, o0⟩ := by rw [← eg, ← ed, ← eo]
      rw [e]
      refine go h' tk as c (pa.mv fun x hx o q => ?_) hl (kp _ _ Sz STO S1 S2 hS) (fun b o q => kp _ _ ?_ ?_ ?_ ?_ (kept b o q))
      · obtain ⟨n1, n2, n3, n4, _⟩ := far pa x hx
        exact kp _ _ n1 n2 n3 n4 q
      · intro e; rw [e, oz] at q; cases q
      · intro e; rw [e, oTO] at q; cases q
      · intro e; rw [e, o1] at q; cases q
      · intro e; rw [e, o2] at q; cases q
    refine wpAny_bind ?_
    rcases zs with ⟨_, q, x, y, qo⟩ | ⟨T, f, oT, q, live, n1, n2, n3, n4⟩
    · refine next_k_end (A := A.in1) calm D ne1 ne2 q hTI qo h1 h2 q1 q2 ?_ fun h' tk kp => wpAny_pure (fin h' tk kp)
      cases st
      · exact ⟨by simp, by simp [len], .inl (by simp)⟩
      · exact ⟨by simp, by simp [len]⟩
    · unfold pyNext
      refine wpAny_bind (wpAny_attempt (wpAny_callSpecial?_slot (name := Str.ofString "__next__") ⟨_, q, rfl⟩ F.slot_zip_next (wpAny_call_entry F.slot_zip_next ⟨_, q, rfl⟩ F.entry_zip_next ?_ (F.args_zip_next_1 _))))
      refine held_end (A := A.in1.in1) calm D ne1 ne2 q live hTI h1 h2 q1 q2 ⟨by simp, fun _ => by simp [len]⟩ fun h' tk e kp ⟨o, at', isS⟩ => ?_
      exact wpAny_bind (wpAny_isInstance (T := "StopIteration") (b := true) ⟨o, at', isS⟩ isSubtype_stop (wpAny_pure (wpAny_pure (fin h' tk fun c o c1 _ c3 c4 q => kp c o c1 c3 c4 q))))
  | succ k ih =>
    intro i s as c hk hi hTI h1 h2 q1 q2 zs hl pa hS kept lo' eg ed eo
    have lt : i < xs.length := by omega
    have szlt : S < s.heap.objs.size := Heap.lt_size hS
    refine codeAny_builtin F.entry_extend_loop ?_
    rw [Around.under_plainId F.plain_extend_loop _]
    show wpAny _ A.in1 (pyNext (.ref z) >>= fun r => _) _ _ s
    have fresh : ∀ x, (∃ o, s.heap.get? x = some o) → s.heap.objs.size ≠ x := fun x ⟨o, q⟩ => Nat.ne_of_gt (Heap.lt_size q)
    have zat : ∃ o, s.heap.get? z = some o := by
      rcases zs with ⟨_, q, _⟩ | ⟨T, f, oT, q, _⟩
      · cases st
        · exact ⟨_, q⟩
        · exact ⟨_, q⟩
      · exact ⟨_, q⟩
    -- behind the draw
    have step : ∀ (x y : Value) (h' : Heap) (tk : Nat), xs[i]? = some x → ys[i]? = some y → IsTupOf2 h' TI (.ref i1) (.ref i2) → ItK t1 h' i1 a (i + 1) → ItK t2 h' i2 b (i + 1) → IsTupOf2 h' s.heap.objs.size x y →
        (∀ c o, c ≠ z → c ≠ TO → c ≠ i1 → c ≠ i2 → s.heap.get? c = some o → h'.get? c = some o) → (∃ T f oT, IsZipH st h' z TI TO T f ∧ h'.get? T = some oT ∧ T ≠ z ∧ T ≠ i1 ∧ T ≠ i2 ∧ T ≠ S) →
        wpAny (model prog w) A.in1 (updateSeq S (·.push (.ref s.heap.objs.size)) >>= fun _ => again (.builtin "list.extend.loop" ⟨[.ref S, .ref z, .none], []⟩))
          (fun fin s' => match fin with | .done f => R (.ok f) s' | .again c' => c'.quiet = true ∧ codeAny (model prog w) A c' R s') (fun e s' => R (.error e) s') { s with heap := h', toks := tk } := fun x y h' tk ex ey hTI' h1' h2' new kp zs' => by
      have hS' := kp _ _ Sz STO S1 S2 hS
      have nT : s.heap.objs.size ≠ S := Nat.ne_of_gt szlt
      have room : ((as.map Value.ref).toArray.push (.ref s.heap.objs.size)).size ≤ sizeLine + 1 := by
        rw [Array.size_push, List.size_toArray, List.length_map, hl]
        omega
      refine wpAny_bind (wpAny_updateSeq (s := { s with heap := h', toks := tk }) hS' rfl (wpAny_pure ⟨plainId_quiet F.plain_extend_loop _, ?_⟩) (by rw [List.size_toArray, List.length_map, hl]; omega) room)
      have up : ∀ (c : Addr) o, c ≠ S → h'.get? c = some o → (h'.update S (Obj.mapSeq (·.push (.ref s.heap.objs.size)))).get? c = some o := fun c o n q => (Heap.get?_update_other _ _ (Ne.symm n)).trans q
      obtain ⟨T, f, oT, qz, live, n1, n2, n3, n4⟩ := zs'
      refine ih (i + 1) { s with heap := h'.update S (Obj.mapSeq (·.push (.ref s.heap.objs.size))), toks := tk } (as ++ [s.heap.objs.size]) (c + 1) (by omega) lt (up _ _ (Ne.symm STI) hTI') (h1'.at fun o q => up _ o (Ne.symm S1) q) (h2'.at fun o q => up _ o (Ne.symm S2) q) ?_ ?_ (.inr ⟨T, f, oT, up _ _ (Ne.symm Sz) qz, up _ _ n4 live, n1, n2, n3, n4⟩)
        (by rw [List.length_append, List.length_singleton, hl]) ?_ ?_ (fun c o q => ?_) ?_ eg ed eo
      · have at' : SeqK t1 h' a xs.toArray := by
          cases t1
          · exact (show s.heap.IsList a xs.toArray from q1).at fun o q => kp _ o (fun e => D.zf1 (by simp [e])) (fun e => D.Tf1 (by simp [e])) ne1 (fun e => D.sep2_1 (by simp [e])) q
          · exact (show s.heap.IsTuple a xs.toArray from q1).at fun o q => kp _ o (fun e => D.zf1 (by simp [e])) (fun e => D.Tf1 (by simp [e])) ne1 (fun e => D.sep2_1 (by simp [e])) q
        cases t1
        · exact (show h'.IsList a xs.toArray from at').at fun o q => up _ o (Ne.symm Sa) q
        · exact (show h'.IsTuple a xs.toArray from at').at fun o q => up _ o (Ne.symm Sa) q
      · have at' : SeqK t2 h' b ys.toArray := by
          cases t2
          · exact (show s.heap.IsList b ys.toArray from q2).at fun o q => kp _ o (fun e => D.zf2 (by simp [e])) (fun e => D.Tf2 (by simp [e])) (fun e => D.sep1_2 (by simp [e])) ne2 q
          · exact (show s.heap.IsTuple b ys.toArray from q2).at fun o q => kp _ o (fun e => D.zf2 (by simp [e])) (fun e => D.Tf2 (by simp [e])) (fun e => D.sep1_2 (by simp [e])) ne2 q
        cases t2
        · exact (show h'.IsList b ys.toArray from at').at fun o q => up _ o (Ne.symm Sb) q
        · exact (show h'.IsTuple b ys.toArray from at').at fun o q => up _ o (Ne.symm Sb) q
      · refine ⟨List.pairwise_append.mpr ⟨pa.rise, List.pairwise_singleton _ _, fun u hu v hv => ?_⟩, fun u hu => ?_, fun j u e => ?_⟩
        · rw [List.mem_singleton.mp hv]
          obtain ⟨j, e⟩ := List.mem_iff_getElem?.mp hu
          obtain ⟨_, _, _, _, q⟩ := pa.there j u e
          exact Heap.lt_size q
        · rcases List.mem_append.mp hu with hu | hu
          · exact pa.above u hu
          · rw [List.mem_singleton.mp hu]
            exact lo'
        · by_cases hj : j < as.length
          · rw [List.getElem?_append_left hj] at e
            obtain ⟨p, q, e1, e2, at'⟩ := pa.there j u e
            obtain ⟨n1, n2, n3, n4, n5⟩ := far pa u (List.mem_of_getElem? e)
            exact ⟨p, q, e1, e2, up _ _ n5 (kp _ _ n1 n2 n3 n4 at')⟩
          · rw [List.getElem?_append_right (by omega)] at e
            have hj' : j - as.length = 0 := by
              have := (List.getElem?_eq_some_iff.mp e).1
              rw [List.length_singleton] at this
              omega
            rw [hj'] at e
            have e : s.heap.objs.size = u := by simpa using e
            subst e
            have ji : j = i := by omega
            subst ji
            exact ⟨x, y, ex, ey, up _ _ nT new⟩
      · have q := Heap.get?_update_self (Obj.mapSeq (·.push (.ref s.heap.objs.size))) hS' rfl
        refine q.trans ?_
        have arr : (as.map Value.ref).toArray.push (.ref s.heap.objs.size) = ((as ++ [s.heap.objs.size]).map Value.ref).toArray := by simp
        show some (Obj.mk _ _ (.seq ((as.map Value.ref).toArray.push (.ref s.heap.objs.size)) (if ((as.map Value.ref).toArray.push (.ref s.heap.objs.size)).size == (as.map Value.ref).toArray.size then c else c + 1)) _) = _
        rw [arr]
        have ne : (((as ++ [s.heap.objs.size]).map Value.ref).toArray.size == (as.map Value.ref).toArray.size) = false := by simp
        rw [ne]
        rfl
      · have old' : ∀ v, old.get? v = none → c ≠ v := fun v n e => by rw [e, n] at q; cases q
        exact up _ _ (old' S oS) (kp _ _ (old' z oz) (old' TO oTO) (old' i1 o1) (old' i2 o2) (kept c o q))
      · exact Nat.lt_trans lo' (Heap.lt_size (up _ _ nT new))
    refine wpAny_bind ?_
    have l1 : i < xs.toArray.size := by simpa using lt
    have l2 : i < ys.toArray.size := by simpa [len] using lt
    rcases zs with ⟨_, q, x0, y0, qo⟩ | ⟨T, f, oT, q, live, n1, n2, n3, n4⟩
    · have lz : ∃ o, s.heap.get? z = some o := zat
      refine next_k_item (A := A.in1) calm D ne1 ne2 q hTI qo h1 h2 q1 q2 l1 l2 fun x y h' tk ex ey z' O' h1' h2' new kp => ?_
      refine step x y h' tk (by simpa using ex) (by simpa using ey) (kp _ _ D.TIz D.TITO D.TIi1 D.TIi2 hTI) h1' h2' new kp ⟨s.heap.objs.size, false, _, ?_, new, fresh z zat, fresh i1 (let ⟨o, e, _⟩ := h1.obj; ⟨o, e⟩), fresh i2 (let ⟨o, e, _⟩ := h2.obj; ⟨o, e⟩), Nat.ne_of_gt szlt⟩
      cases st
      · exact z'
      · exact z'
    · unfold pyNext
      refine wpAny_bind (wpAny_attempt (wpAny_callSpecial?_slot (name := Str.ofString "__next__") ⟨_, q, rfl⟩ F.slot_zip_next (wpAny_call_entry F.slot_zip_next ⟨_, q, rfl⟩ F.entry_zip_next ?_ (F.args_zip_next_1 _))))
      refine held_item (A := A.in1.in1) calm D ne1 ne2 q live hTI h1 h2 q1 q2 l1 l2 fun x y h' tk ex ey z' h1' h2' new kp => wpAny_pure ?_
      exact step x y h' tk (by simpa using ex) (by simpa using ey) (kp _ _ D.TIz D.TIi1 D.TIi2 hTI) h1' h2' new (fun c o c1 _ c3 c4 q => kp c o c1 c3 c4 q) ⟨T, true, oT, z', kp _ _ n1 n2 n3 live, n1, n2, n3, n4⟩

/-- list(z) of a zip not yet drawn from -/
theorem list_of_zip {s : Shared} {n : Addr} {Q : Value → Shared → Prop} (calm : A.handled = none) (old : Heap) (an : a < n) (bn : b < n) (size : s.heap.objs.size = n + 5) (at_ : IsZipK st s.heap (n + 4) (n + 2) (n + 3) .none) (its : IsTupOf2 s.heap (n + 2) (.ref n) (.ref (n + 1)))
    (own : IsTupOf2 s.heap (n + 3) .none .none) (s1 : ItK t1 s.heap n a 0) (s2 : ItK t2 s.heap (n + 1) b 0) (q1 : SeqK t1 s.heap a xs.toArray) (q2 : SeqK t2 s.heap b ys.toArray) (len : ys.length = xs.length) (fit : xs.length ≤ sizeLine)
    (kept : ∀ b o, old.get? b = some o → s.heap.get? b = some o) (oldN : old.objs.size = n)
    (h : ∀ h' tk as c, PairsAt (n + 5) h' as xs ys → as.length = xs.length → h'.get? (n + 5) = some { cls := .type "list", data := .seq (as.map Value.ref).toArray c } → (∀ b o, old.get? b = some o → h'.get? b = some o) → Q (.ref (n + 5)) { s with heap := h', toks := tk }) :
    wpAny (model prog w) A (call (.type "list") [.ref (n + 4)]) Q E s := by
  have ne : ∀ {x y : Nat}, (x < y ∨ y < x) → @Ne Addr x y := fun h => h.elim Nat.ne_of_lt Nat.ne_of_gt
  have nin : ∀ {c x y : Addr}, c ≠ x → c ≠ y → c ∉ [x, y] := fun h1 h2 z => by
    rcases List.mem_cons.mp z with z | z
    · exact h1 z
    · exact h2 (List.mem_singleton.mp z)
  replace an : Nat.lt a n := an
  replace bn : Nat.lt b n := bn
  have below : ∀ {c : Addr} (k : Nat), Nat.lt c n → (n + k : Addr) ≠ c := fun k h => Nat.ne_of_gt (Nat.lt_of_lt_of_le h (Nat.le_add_right n k))
  have D : ZipSep2 (n + 4) (n + 2) (n + 3) n (n + 1) [n, a] [n + 1, b] :=
    ⟨ne (by omega), ne (by omega), ne (by omega), ne (by omega), by simp, nin (ne (by omega)) (below 4 an), nin (ne (by omega)) (below 3 an), ne (by omega), by simp, nin (ne (by omega)) (below 4 bn), nin (ne (by omega)) (below 3 bn), nin (ne (by omega)) (below 0 bn), nin (ne (by omega)) (below 1 an)⟩
  have none_ : ∀ k : Nat, old.get? (n + k) = none := fun k => by
    rw [← oldN]
    exact PySem.Heap.get?_none_of_le (Nat.le_add_right _ _)
  have ty : s.TypeIs (.ref (n + 4)) "zip" := by
    cases st
    · exact ⟨_, at_, rfl⟩
    · exact ⟨_, at_, rfl⟩
  refine callType_codes (Q₁ := fun obj s' => obj = .ref s.heap.objs.size ∧ s' = { s with heap := s.heap.push { cls := .type "list", data := .seq #[] } }) F.called_list (F.typeCall_list_1 _) F.entry_list_init (code_list_new _ ⟨rfl, rfl⟩) fun obj s' ⟨e1, e2⟩ => ?_
  subst e1 e2
  have hS : (s.heap.push { cls := .type "list", data := .seq #[] }).get? s.heap.objs.size = some { cls := .type "list", data := .seq #[] } := Heap.get?_push_size _ rfl
  refine ⟨⟨_, hS, rfl⟩, F.args_list_init_2 _ _, ?_⟩
  rw [size] at hS ⊢
  -- a list that is emptied, then given room
  have pushed : ∀ {c : Addr} {o : Obj}, s.heap.get? c = some o → (s.heap.push { cls := .type "list", data := .seq #[] }).get? c = some o := fun q => Heap.get?_push_of_some _ q
  have loop : ∀ (g : Heap) (c : Nat), (∀ c o, c ≠ n + 5 → s.heap.get? c = some o → g.get? c = some o) → g.get? (n + 5) = some { cls := .type "list", data := .seq #[] c } →
      codeAny (model prog w) A.in1 (.builtin "list.extend.loop" ⟨[.ref (n + 5), .ref (n + 4), .none], []⟩) (wants (fun r s₂ => r = .none ∧ Q (.ref (n + 5)) s₂) E) { s with heap := g } := fun g c up hS' => by
    have upz : ∀ {c : Addr} {o : Obj}, s.heap.get? c = some o → g.get? c = some o := fun {c o} q => up c o (fun e => by
      have := Heap.lt_size q
      rw [size, e] at this
      exact Nat.lt_irrefl _ this) q
    refine list_loop (A := A.in1) (R := wants (fun r s₂ => r = .none ∧ Q (.ref (n + 5)) s₂) E) (st := st) (t1 := t1) (t2 := t2) (xs := xs) (ys := ys) calm D (below 0 an).symm (below 1 bn).symm s.gens s.drawn s.os (ne (by omega)) (ne (by omega)) (ne (by omega)) (ne (by omega)) (ne (by omega)) (below 5 an) (below 5 bn) (n + 5) old len fit (none_ 4) (none_ 3) (none_ 0) (none_ 1) (none_ 5)
      (fun c hc => ?_) (fun h' tk as c p l at' k => ⟨rfl, h h' tk as c p l at' k⟩) xs.length 0 { s with heap := g } [] c (by omega) (Nat.zero_le _) (upz its) (s1.at fun o q => upz q) (s2.at fun o q => upz q) ?_ ?_ (.inl ⟨rfl, ?_, _, _, upz own⟩) rfl ⟨List.Pairwise.nil, (fun _ z => nomatch z), (fun j a e => by simp at e)⟩ hS' (fun b o q => upz (kept b o q)) (Heap.lt_size hS') rfl rfl rfl
    · rcases hc with rfl | rfl | rfl | rfl | rfl
      · exact Nat.not_lt.mpr (Nat.add_le_add_left (by omega) n)
      · exact Nat.not_lt.mpr (Nat.add_le_add_left (by omega) n)
      · exact Nat.not_lt.mpr (Nat.le_add_right _ _)
      · exact Nat.not_lt.mpr (Nat.add_le_add_left (by omega) n)
      · exact Nat.lt_irrefl _
    · cases t1
      · exact (show s.heap.IsList a xs.toArray from q1).at fun o q => upz q
      · exact (show s.heap.IsTuple a xs.toArray from q1).at fun o q => upz q
    · cases t2
      · exact (show s.heap.IsList b ys.toArray from q2).at fun o q => upz q
      · exact (show s.heap.IsTuple b ys.toArray from q2).at fun o q => upz q
    · cases st
      · exact upz at_
      · exact upz at_
  show wpAny _ _ (Builtin.List.listItems (.ref (n + 5)) >>= fun was => Builtin.List.listUpdate (.ref (n + 5)) (fun _ => #[]) >>= fun _ => letGo was.toList.reverse >>= fun _ => Builtin.List.listExtendWith (.ref (n + 5)) (.ref (n + 4)) .none) _ _ _
  unfold Builtin.List.listItems
  refine wpAny_bind (wpAny_bind (wpAny_seqItems hS rfl (wpAny_pure ?_)))
  show wpAny _ _ (updateSeq (n + 5) (fun _ => #[]) >>= fun _ => letGo (#[] : Array Value).toList.reverse >>= fun _ => Builtin.List.listExtendWith (.ref (n + 5)) (.ref (n + 4)) .none) _ _ _
  refine wpAny_bind (wpAny_updateSeq hS rfl (wpAny_bind (wpAny_letGo ?_)))
  have hS2 := Heap.get?_update_self (Obj.mapSeq (fun _ => (#[] : Array Value))) hS rfl
  have up2 : ∀ c o, c ≠ n + 5 → s.heap.get? c = some o → ((s.heap.push { cls := .type "list", data := .seq #[] }).update (n + 5) (Obj.mapSeq fun _ => #[])).get? c = some o := fun c o ne q => (Heap.get?_update_other _ _ (Ne.symm ne)).trans (pushed q)
  have far : ∀ {c : Addr} {o : Obj}, s.heap.get? c = some o → c ≠ n + 5 := fun {c o} q e => by
    have := Heap.lt_size q
    rw [size, e] at this
    exact Nat.lt_irrefl _ this
  have zAt : ∃ o, s.heap.get? (n + 4) = some o ∧ o.cls = .type "zip" := by
    obtain ⟨o, q, c⟩ := ty
    exact ⟨o, q, c⟩
  obtain ⟨oz, qz, cz⟩ := zAt
  have qz2 := up2 _ _ (far qz) qz
  unfold Builtin.List.listExtendWith
  refine wpAny_bind (wpAny_typeOf (T := "zip") ⟨_, qz2, cz⟩ ?_)
  have k1 : Builtin.List.listSameRef (.ref (n + 5)) (.ref (n + 4)) = false := by simp [Builtin.List.listSameRef]
  have k2 : (Value.type "zip" == Value.type "list") = false := by decide
  have k3 : (Value.type "zip" == Value.type "tuple") = false := by decide
  simp only [k1, k2, k3, Bool.or_false, Bool.false_eq_true, if_false]
  have zk2 : IsZipK st ((s.heap.push { cls := .type "list", data := .seq #[] }).update (n + 5) (Obj.mapSeq fun _ => #[])) (n + 4) (n + 2) (n + 3) .none := by
    cases st
    · exact up2 _ _ (far at_) at_
    · exact up2 _ _ (far at_) at_
  refine wpAny_bind (iter_zipK zk2 (wpAny_bind (wpAny_holding ?_)))
  unfold Builtin.List.listLengthHint
  refine wpAny_bind (wpAny_specialOf (T := "zip") ⟨_, qz2, cz⟩ zip_no_len ?_)
  show wpAny _ _ (specialOf (.ref (n + 4)) "__length_hint__" >>= fun r => _) _ _ _
  refine wpAny_bind (wpAny_specialOf (T := "zip") ⟨_, qz2, cz⟩ zip_no_hint ?_)
  refine wpAny_pure ?_
  show wpAny _ _ (rule "list.extend.makes-room" >>= fun _ => Builtin.List.listTouch (.ref (n + 5)) >>= fun _ => again (.builtin "list.extend.loop" ⟨[.ref (n + 5), .ref (n + 4), .none], []⟩)) _ _ _
  refine wpAny_bind (wpAny_rule ?_)
  unfold Builtin.List.listTouch
  have hS3 := Heap.get?_update_self (Obj.mapSeq (fun l : Array Value => l.push .none)) hS2 rfl
  have hS4 := Heap.get?_update_self (Obj.mapSeq (fun l : Array Value => l.pop)) hS3 rfl
  refine wpAny_bind (wpAny_bind (wpAny_updateSeq hS2 rfl (wpAny_updateSeq hS3 rfl (wpAny_pure ⟨plainId_quiet F.plain_extend_loop _, ?_⟩))))
  refine loop _ _ (fun c o ne q => ?_) hS4
  exact (Heap.get?_update_other _ _ (Ne.symm ne)).trans ((Heap.get?_update_other _ _ (Ne.symm ne)).trans (up2 c o ne q))
end
end GS

/-! GM7: list(zip(a, b)) over what is tracked. -/
namespace GS
open PySem PySem.Spec PyProof.Rows L2

/-- H, and behind it the pairs zs at as -/
def withP (H : Hp) (as : List Addr) (zs : List (V × V)) : Hp := fun c => match (as.zip zs).lookup c with
  | some q => some (.tup [q.1, q.2])
  | none => H c
theorem withP_out {H : Hp} {zs : List (V × V)} {c : Addr} : ∀ {as : List Addr}, c ∉ as → withP H as zs c = H c := fun {as} n => by
  have e : (as.zip zs).lookup c = none := by
    rw [List.lookup_eq_none_iff]
    intro p hp
    have m := (List.of_mem_zip hp).1
    exact bne_iff_ne.mpr fun e => n (e ▸ m)
  unfold withP
  rw [e]
theorem lookup_at {zs : List (V × V)} {c : Addr} {q : V × V} : ∀ {as : List Addr} {zs : List (V × V)} {j : Nat}, as.Nodup → as[j]? = some c → zs[j]? = some q → (as.zip zs).lookup c = some q
  | [], _, _, _, e, _ => by simp at e
  | _ :: _, [], _, _, _, e => by simp at e
  | a :: as, z :: zs, 0, _, e1, e2 => by
    have e1 : a = c := by simpa using e1
    have e2 : z = q := by simpa using e2
    subst e1 e2
    simp
  | a :: as, z :: zs, j + 1, nd, e1, e2 => by
    have e1 : as[j]? = some c := by simpa using e1
    have e2 : zs[j]? = some q := by simpa using e2
    have ne : (c == a) = false := by
      apply beq_eq_false_iff_ne.mpr
      intro e
      exact (List.nodup_cons.mp nd).1 (e ▸ List.mem_of_getElem? e1)
    rw [List.zip_cons_cons, List.lookup_cons, ne]
    exact lookup_at (zs := zs) (List.nodup_cons.mp nd).2 e1 e2
theorem withP_at {H : Hp} {as : List Addr} {zs : List (V × V)} {j : Nat} {c : Addr} {q : V × V} (nd : as.Nodup) (e1 : as[j]? = some c) (e2 : zs[j]? = some q) : withP H as zs c = some (.tup [q.1, q.2]) := by
  unfold withP
  rw [lookup_at (zs := zs) nd e1 e2]
/-- the list p of new pairs -/
structure NewPairs (H H' : Hp) (p : Addr) (ts : List Addr) (zs : List (V × V)) : Prop where
  len : ts.length = zs.length
  fresh : H p = none
  freshes : ∀ t ∈ ts, H t = none
  apart : p ∉ ts
  list : H' p = some (.lst (ts.map V.ref))
  pairs : ∀ (j : Nat) (t : Addr) (q : V × V), ts[j]? = some t → zs[j]? = some q → H' t = some (.tup [q.1, q.2])
  same : ∀ c, c ≠ p → c ∉ ts → H' c = H c
def tListZip (K : PySem.W.Frag) (ta : TA) : TE := fun σ H Q => ta σ H fun vs H1 => ∃ a b t1 t2 xs ys, vs = [.ref a, .ref b] ∧ SqK t1 K H1 a xs ∧ SqK t2 K H1 b ys ∧ ys.length = xs.length ∧ xs.length ≤ sizeLine ∧ ∀ H' p ts, NewPairs H1 H' p ts (xs.zip ys) → Q (.ref p) H'
theorem vals_ref : ∀ as : List Addr, Vals (as.map V.ref) (as.map Value.ref)
  | [] => .nil
  | _ :: r => .cons rfl (vals_ref r)
section
variable {X : Cx} {pins : List (Addr × Obj)} {s : Shared} {σ : L2.St} {H : Hp}
theorem pairs_in {lo : Addr} {xs ys : List V} {us ws : List Value} {as : List Addr} {h' : Heap} {tk c : Nat} (I : Inv X pins σ H s) (rx : Vals xs us) (ry : Vals ys ws) (len : ys.length = xs.length) (fit : xs.length ≤ sizeLine) (hlo : s.heap.objs.size ≤ lo)
    (pa : PairsAt lo h' as us ws) (hl : as.length = us.length) (hS : h'.get? lo = some { cls := .type "list", data := .seq (as.map Value.ref).toArray c }) (kept : ∀ b o, s.heap.get? b = some o → h'.get? b = some o) :
    ∃ H', NewPairs H H' lo as (xs.zip ys) ∧ Inv X pins σ H' { s with heap := h', toks := tk } := by
  have out : lo ∉ as := fun z => Nat.lt_irrefl _ (pa.above _ z)
  have nd : as.Nodup := pa.rise.imp fun h => Nat.ne_of_lt h
  have fresh : ∀ t ∈ as, H t = none := fun t ht => I.hok.fresh (Nat.le_trans hlo (Nat.le_of_lt (pa.above t ht)))
  have freshL : H lo = none := I.hok.fresh hlo
  have lx : us.length = xs.length := rx.length.symm
  have lens : as.length = (xs.zip ys).length := by rw [List.length_zip, len, Nat.min_self, hl, lx]
  have low : ∀ c o, s.heap.get? c = some o → c ≠ lo ∧ c ∉ as := fun c o q => by
    have lt := Nat.lt_of_lt_of_le (Heap.lt_size q) hlo
    exact ⟨Nat.ne_of_lt lt, fun z => Nat.lt_irrefl _ (Nat.lt_trans lt (pa.above c z))⟩
  have same : ∀ c, c ≠ lo → c ∉ as → withP (upd H lo (.lst (as.map V.ref))) as (xs.zip ys) c = H c := fun c h1 h2 => by rw [withP_out h2, upd_ne h1]
  have keepT : ∀ b u, H b = some u → withP (upd H lo (.lst (as.map V.ref))) as (xs.zip ys) b = some u := fun b u q => by
    rw [same b (fun e => by rw [e, freshL] at q; cases q) fun z => by rw [fresh b z] at q; cases q]
    exact q
  refine ⟨withP (upd H lo (.lst (as.map V.ref))) as (xs.zip ys), ⟨lens, freshL, fresh, out, by rw [withP_out out, upd_same], fun j t q e1 e2 => withP_at nd e1 e2, same⟩, ?_⟩
  refine I.call' (ch := []) rfl ?_ ?_ I.bare (by simp)
  · constructor
    · exact fun b o q _ _ _ => kept b o q
    · exact fun b o q _ _ _ => ⟨o.slots, kept b o q⟩
    · exact fun b o q n _ => (same b (low b o q).1 (low b o q).2).trans n
    · exact fun b o q _ => ⟨o, kept b o q⟩
    · exact fun b xs q => keepT b _ q
    · exact fun b o u q => keepT b _ q
    · exact fun b ps q => ⟨#[], by rw [keepT b _ q]; simp⟩
  · intro b u q
    by_cases hb : b ∈ as
    · obtain ⟨j, e⟩ := List.mem_iff_getElem?.mp hb
      have lt : j < (xs.zip ys).length := by rw [← lens]; exact (List.getElem?_eq_some_iff.mp e).1
      obtain ⟨z, ez⟩ : ∃ z, (xs.zip ys)[j]? = some z := ⟨_, List.getElem?_eq_getElem lt⟩
      rw [withP_at nd e ez] at q
      cases q
      obtain ⟨x, y, e1, e2, at'⟩ := pa.there j b e
      obtain ⟨zx, zy⟩ := List.getElem?_zip_eq_some.mp ez
      obtain ⟨x', e1', r1⟩ := rx.get zx
      obtain ⟨y', e2', r2⟩ := ry.get zy
      rw [e1] at e1'
      rw [e2] at e2'
      cases e1'
      cases e2'
      exact ⟨by show 2 ≤ sizeLine; decide, [x, y], .cons r1 (.cons r2 .nil), ⟨_, at', rfl, _, rfl⟩⟩
    · by_cases hb' : b = lo
      · subst hb'
        rw [withP_out hb, upd_same] at q
        cases q
        exact ⟨by rw [List.length_map, hl, lx]; exact fit, as.map Value.ref, c, vals_ref as, hS⟩
      · rw [same b hb' hb] at q
        exact (I.hok b u q).stay (fun d v _ y => kept d v y) (fun d y => keepT d _ y) fun d xs y => keepT d _ y
theorem listzip_made {t1 t2 : Bool} {a b : Addr} {xs ys : List V} {Q : V → Hp → Prop} (calm : X.calm = true) (I : Inv X pins σ H s) (qx : SqK t1 X.K H a xs) (qy : SqK t2 X.K H b ys) (len : ys.length = xs.length) (fit : xs.length ≤ sizeLine) (q : ∀ H' p ts, NewPairs H H' p ts (xs.zip ys) → Q (.ref p) H') :
    wpAny (model X.prog X.w) X.A (call (.type "zip") [.ref a, .ref b]) (fun v s1 => wpAny (model X.prog X.w) X.A (call (.type "list") [v]) (fun v s2 => ∃ x H', Inv X pins σ H' s2 ∧ RelV x v ∧ Q x H') X.xe s1) X.xe s := by
  obtain ⟨us, ru, p1⟩ := inv_k I qx
  obtain ⟨ws, rw', p2⟩ := inv_k I qy
  obtain ⟨o1, B1, k1⟩ := begins_k t1 a us.toArray
  obtain ⟨o2, B2, k2⟩ := begins_k t2 b ws.toArray
  have la : a < s.heap.objs.size := p1.lt
  have lb : b < s.heap.objs.size := p2.lt
  refine zip_begins2 B1 B2 p1 p2 fun h' hz hI hO g1 g2 size kept => ?_
  refine list_of_zip (st := false) (t1 := t1) (t2 := t2) (a := a) (b := b) (xs := us) (ys := ws) (s := { s with heap := h' }) (I.ok.hd calm) s.heap la lb size hz hI hO (k1 _ _ g1) (k2 _ _ g2) ?_ ?_ (by rw [← ru.length, ← rw'.length, len]) (by rw [← ru.length]; exact fit) kept rfl fun h2 tk as c pa hl hS kp => ?_
  · cases t1
    · exact (show s.heap.IsList a us.toArray from p1).at fun o q => kept _ o q
    · exact (show s.heap.IsTuple a us.toArray from p1).at fun o q => kept _ o q
  · cases t2
    · exact (show s.heap.IsList b ws.toArray from p2).at fun o q => kept _ o q
    · exact (show s.heap.IsTuple b ws.toArray from p2).at fun o q => kept _ o q
  · obtain ⟨H', np, I'⟩ := pairs_in (tk := tk) I ru rw' len fit (Nat.le_add_right _ 5) pa hl hS kp
    exact ⟨.ref _, H', I', rfl, q H' _ as np⟩
/-- list(zip(a, b)) -/
theorem pe_listzip {e e2 : Expr} {ta : TA} {p p2 pos pos2 : Pos} (calm : X.calm = true) (hg : Gl X "zip") (hm : X.mg "zip" = none) (hg2 : Gl X "list") (hm2 : X.mg "list" = none) (ha : L2.PA X [e, e2] ta) (hs : starEach [e, e2] X.env = (false, eval e X.env) :: starEach [e2] X.env)
    (hp : (backTo pos2 (starEach [e, e2] X.env)).any (·.1) = false)
    (hs1 : starEach [.Call (.Name "zip" p2) [e, e2] [] pos2] X.env = (false, eval (.Call (.Name "zip" p2) [e, e2] [] pos2) X.env) :: starEach [] X.env) :
    L2.PE X (.Call (.Name "list" p) [.Call (.Name "zip" p2) [e, e2] [] pos2] [] pos) (tListZip X.K ta) := by
  refine ⟨fun pins s σ H Q I h => ?_⟩
  refine wpAny_Call_Name_kw (ld_blt I hg2 hm2 PyProof.Rows.boot_list (PyProof.Rows.callWith_type1 ?_ hs1 rfl))
  rw [hs1]
  show wpAny _ _ (spliced ((false, eval (.Call (.Name "zip" p2) [e, e2] [] pos2) X.env) :: backTo pos (starEach [] X.env))) _ _ s
  refine Calls.spliced_cons ?_
  show wpAny _ _ (eval (.Name "zip" p2) X.env >>= fun f => callWith pos2 f [] (backTo pos2 (starEach [e, e2] X.env)) (backToKw pos2 (keywordEach [] X.env))) _ _ _
  refine wpAny_bind (ld_blt I hg hm PyProof.Rows.boot_zip (call_typeKw (kws := []) (thn (ha.run pos2 pins s σ H _ I h) fun us s1 ⟨vs, H1, I1, r1, q1⟩ => ?_) (by rw [hs]; rfl) hp rfl rfl))
  obtain ⟨a, b, t1, t2, xs, ys, ex, qx, qy, len, fit, q⟩ := q1
  subst ex
  cases r1 with
  | cons r rr =>
    cases rr with
    | cons r' rr =>
      cases rr
      cases r
      cases r'
      exact kws_nil (thn (listzip_made calm I1 qx qy len fit q) fun v s2 h2 => Calls.spliced_nil h2)
end
end GS

/-! GN1: the evaluator's comprehensions of any kind. -/
namespace GS
open PySem PySem.Spec PyProof.Rows L2

theorem Keep.trans {W W1 W2 : Addr → Prop} {H H1 H2 : Hp} (a : Keep W H W1 H1) (b : Keep W1 H1 W2 H2) : Keep W H W2 H2 where
  keep := fun p u e n => b.keep p u (a.keep p u e n) fun z => (a.own p z).elim n fun q => by rw [e] at q; cases q
  own := fun p z => (b.own p z).elim (a.own p) fun q => by
    cases e : H p with
    | none => exact .inr rfl
    | some u =>
      by_cases n : W p
      · exact .inl n
      · rw [a.keep p u e n] at q
        cases q
section
variable {O : Ora} {K : PySem.W.Frag} {mg : Str → Option Value} {Wx : L2.WX}
/-- a step that changes what is filled -/
structure ActOk (K : PySem.W.Frag) (mg : Str → Option Value) (act : Ob → Ev → Rs Ob) (D : Addr) (ta : TAc) (vs : List Nat) : Prop where
  run : ∀ {W : Addr → Prop} {s s0 : Ev} {σ σ0 : L2.St} {H H0 : Hp} {acc : Ob} {P : Ob → Ev → Prop} {Nx : Hp → Prop}, W D → H0 D = none → Mv s0 σ0 H0 s σ H → Rel K mg W s σ H → ObAt K mg (Wf W s σ) H D acc → wpG (act acc s) P (fun _ _ => False) →
    (∀ acc' s' σ' H', L2.wipe σ' vs = L2.wipe σ vs → Mv s0 σ0 H0 s' σ' H' → Keep (Wf W s σ) H (Wf W s' σ') H' → Rel K mg W s' σ' H' → ObAt K mg (Wf W s' σ') H' D acc' → P acc' s' → Nx H') → ta σ H Nx
theorem turns_ok {ow : List Nat} {tg : CT} {ifs : CEs} {act : Ob → Ev → Rs Ob} {D : Addr} {ta : TAc} {W Wb : Addr → Prop} {H0 Hb Hs : Hp} {J : It} {xs : List GS.D} {s0 si : Ev} {σ0 τ : L2.St} {acc : Ob} {P : Ob → Ev → Prop} {End : Hp → Prop}
    (A : ActOk K mg act D ta ow) (ht : tgIn ow tg = true) (wD : W D) (it : IterOf K mg Wb J Hb xs) (nD : H0 D = none) (hτ : L2.wipe τ ow = τ) (hob : ObAt K mg (Wf W si τ) Hs D acc) (oi : (ow.any fun i => isOwn si[i]?) = false)
    (R : Rel K mg W si τ Hs) (m : Mv s0 σ0 H0 si τ Hs) (k : Keep Wb Hb (Wf W si τ) Hs) (hw : wpG (compO ow tg (fun s => evT O ifs s) act xs acc si) P (fun _ _ => False))
    (fin : ∀ acc s H, ObAt K mg (Wf W s τ) H D acc → (ow.any fun i => isOwn s[i]?) = false → Rel K mg W s τ H → Mv s0 σ0 H0 s τ H → Keep Wb Hb (Wf W s τ) H → P acc s → End H) :
    ∃ Wm : Nat → Nat → Hp → Prop, (∃ m, Wm 0 m Hs) ∧ tTurns J (tG K mg tg) (tTs O K mg noWx ifs) ta ow τ Wm End := by
  refine ⟨fun i n Hc => i ≤ xs.length ∧ n = xs.length - i ∧ ∃ sc acc, ObAt K mg (Wf W sc τ) Hc D acc ∧ (ow.any fun i => isOwn sc[i]?) = false ∧ Rel K mg W sc τ Hc ∧ Mv s0 σ0 H0 sc τ Hc ∧ Keep Wb Hb (Wf W sc τ) Hc ∧ wpG (compO ow tg (fun s => evT O ifs s) act (xs.drop i) acc sc) P (fun _ _ => False),
    ⟨xs.length, Nat.zero_le _, rfl, si, acc, hob, oi, R, m, k, hw⟩, ?_⟩
  rintro i n Hc ⟨hi, rfl, sc, acc, hob, oi, Ri, mi, ki, hw⟩
  by_cases hlt : i < xs.length
  · refine .inr ⟨it.go _ _ i ki hlt, fun Hc => ∃ sc acc, ObAt K mg (Wf W sc τ) Hc D acc ∧ (ow.any fun i => isOwn sc[i]?) = false ∧ Rel K mg W sc τ Hc ∧ Mv s0 σ0 H0 sc τ Hc ∧ Keep Wb Hb (Wf W sc τ) Hc ∧ wpG (compO ow tg (fun s => evT O ifs s) act (xs.drop (i + 1)) acc sc) P (fun _ _ => False),
      fun H' ⟨sc, z⟩ => ⟨xs.length - (i + 1), by omega, hlt, rfl, sc, z⟩, fun x H' y => ?_⟩
    obtain ⟨gy, d, ed, rd⟩ := it.yld _ _ i x H' ki hlt (wf_trk Ri) y
    have ex : xs.drop i = d :: xs.drop (i + 1) := by
      have e : xs[i]? = some xs[i] := List.getElem?_eq_getElem hlt
      rw [e] at ed
      cases ed
      exact List.drop_eq_getElem_cons hlt
    rw [ex] at hw
    have gm : Mv sc τ Hc sc τ H' := Mv.grow gy
    have R' : Rel K mg W sc τ H' := Ri.grow gy (fun a z => gm.trk a (Ri.out a z)) fun a z => .inl z
    refine ⟨W, sc, d, R', rd, (wpG_bind.mp hw).mono (fun _ s2 hw σ2 tgo m2 R2 => ?_) fun _ _ z => z⟩
    have eσ : L2.wipe σ2 ow = τ := (tgo ow ht).trans hτ
    refine ⟨eσ, W, s2, R2, (wpG_bind.mp hw).mono (fun b s3 hw H3 m3 R3 => ?_) fun _ _ z => z.elim⟩
    have m13 : Mv sc τ Hc s3 σ2 H3 := (gm.trans m2).trans m3
    have nDo : ¬ OwnP sc τ D := fun z => (Ri.ownTrk z).2 wD
    have hob3 : ObAt K mg (Wf W s3 σ2) H3 D acc := hob.mv m13.kp fun u e => m13.keep D u e nDo
    have k3 := ki.trans m13.kp
    cases b with
    | false =>
      dsimp only
      rw [if_neg Bool.false_ne_true]
      obtain ⟨o3, hw⟩ := wpG_wipeC (wpG_bind.mp hw)
      obtain ⟨R4, m4⟩ := R3.wipe o3
      rw [eσ] at R4 m4
      exact ⟨_, acc, hob3.mv m4.kp (fun _ e => e), wiped_own, R4, (mi.trans m13).trans m4, k3.trans m4.kp, hw⟩
    | true =>
      dsimp only
      rw [if_pos rfl]
      refine A.run wD nD (mi.trans m13) R3 hob3 (wpG_bind.mp hw) fun acc' s4 σ4 H4 e4 m4 k4 R4 hob4 hw => ?_
      obtain ⟨o4, hw⟩ := wpG_wipeC (wpG_bind.mp hw)
      obtain ⟨R5, m5⟩ := R4.wipe o4
      rw [e4.trans eσ] at R5 m5
      exact ⟨_, acc', hob4.mv m5.kp (fun _ e => e), wiped_own, R5, m4.trans m5, (k3.trans k4).trans m5.kp, hw⟩
  · have ei : i = xs.length := by omega
    subst ei
    rw [List.drop_length] at hw
    exact .inl ⟨it.stop _ _ _ ki rfl, fin acc sc Hc hob oi Ri mi ki hw⟩
/-! ### the three kinds of steps -/
theorem kp_D {W : Addr → Prop} {s : Ev} {σ : L2.St} {H : Hp} {D : Addr} {u : HO} (wD : W D) : Keep (Wf W s σ) H (Wf W s σ) (upd H D u) :=
  ⟨fun a w e n => by
    rw [upd_ne (fun z => n (.inl (by rw [z]; exact wD)))]
    exact e, fun a z => .inl z⟩
theorem act_lst {e : GS.CE} {D : Addr} {vs : List Nat} : ActOk K mg (fun acc s => evA O (.lst e) acc s) D (tEmL (tE O K mg noWx e) D) vs where
  run := by
    intro W s s0 σ σ0 H H0 acc P Nx wD nD m0 R hob hw go
    cases hob with
    | @lst ys ws g r l =>
      have hw : wpG (((ev O e s).bind frz).bind fun d s => if ys.length < sizeLine then Rs.ok (Ob.lst (ys ++ [d])) s else .stuck) P (fun _ _ => False) := hw
      refine tE_of R (wpG_bind.mp (wpG_bind.mp hw)) (fun xv s1 y H1 P1 hw => ?_) fun _ _ z => z.elim
      obtain ⟨dy, s2, e2, hw⟩ := wpG_frz hw
      obtain ⟨R2, m2, ry⟩ := frz_ok P1.rel P1.op e2
      split at hw
      · rename_i fit
        have m12 : Mv s σ H s2 σ H1 := P1.mv.trans m2
        have at1 : H1 D = some (.lst ws) := m12.keep D _ g fun z => (R.ownTrk z).2 wD
        refine ⟨ws, at1, by rw [← r.len]; exact fit, go _ s2 σ _ rfl ((m0.trans m12).updN nD) (m12.kp.trans (kp_D wD)) (R2.updO wD) (.lst upd_same (((r.mv m12.kp).append (.cons ry .nil)).mv (kp_D wD)) ?_) hw⟩
        rw [List.length_append, List.length_singleton]
        exact fit
      · exact hw.elim
    | dic g k r l => exact (show False from hw).elim
theorem act_dic {e1 e2 : GS.CE} {D : Addr} {vs : List Nat} : ActOk K mg (fun acc s => evA O (.dic e1 e2) acc s) D (tEmD (tE O K mg noWx e1) (tE O K mg noWx e2) D) vs where
  run := by
    intro W s s0 σ σ0 H H0 acc P Nx wD nD m0 R hob hw go
    cases hob with
    | lst g r l => exact (show False from hw).elim
    | @dic kvs kws g k r l =>
      have hw : wpG (((ev O e1 s).bind frz).bind fun dk s => ((ev O e2 s).bind frz).bind fun dv s => if keyOk dk && decide (kvs.length < sizeLine) then Rs.ok (Ob.dic (putD dk dv kvs)) s else .stuck) P (fun _ _ => False) := hw
      refine tE_of R (wpG_bind.mp (wpG_bind.mp hw)) (fun xv s1 y H1 P1 hw => ?_) fun _ _ z => z.elim
      obtain ⟨dk, s2, e2, hw⟩ := wpG_frz hw
      obtain ⟨R2, m2, rk⟩ := frz_ok P1.rel P1.op e2
      refine tE_of R2 (wpG_bind.mp (wpG_bind.mp hw)) (fun zv s3 z H3 P3 hw => ?_) fun _ _ z => z.elim
      obtain ⟨dv, s4, e4, hw⟩ := wpG_frz hw
      obtain ⟨R4, m4, rv⟩ := frz_ok P3.rel P3.op e4
      split at hw
      · rename_i c
        simp only [Bool.and_eq_true, decide_eq_true_eq] at c
        obtain ⟨j, rfl⟩ := keyOk_of c.1
        have := keyRep (.of rk)
        subst this
        have m14 : Mv s σ H s4 σ H3 := (P1.mv.trans m2).trans (P3.mv.trans m4)
        have at1 : H3 D = some (.dK kws) := m14.keep D _ g fun z => (R.ownTrk z).2 wD
        have kv : KvR K mg (Wf W s4 σ) H3 kvs kws := KvR.mv m14.kp ⟨k, r⟩
        have kv2 := (kv.put j rv).mv (kp_D (u := .dK (putK kws j z)) wD)
        have hl := putD_len (keyD j) dv kvs
        exact ⟨kws, j, rfl, at1, by rw [← kv.len]; exact c.2, go _ s4 σ _ rfl ((m0.trans m14).updN nD) (m14.kp.trans (kp_D wD)) (R4.updO wD) (.dic upd_same kv2.ks kv2.vs (by omega)) hw⟩
      · exact hw.elim
theorem act_into {ow vs : List Nat} {tg : CT} {it : CI} {ifs : CEs} {a : CA} {D : Addr} {ta : TAc} (A : ActOk K mg (fun acc s => evA O a acc s) D ta ow) (sub : ∀ i ∈ ow, i ∈ vs) :
    ActOk K mg (fun acc s => evA O (.into ow tg it ifs a) acc s) D (tInto (tI O K mg noWx it) (tG K mg tg) (tTs O K mg noWx ifs) ta ow) vs where
  run := by
    intro W s s0 σ σ0 H H0 acc P Nx wD nD m0 R hob hw go
    have hw : wpG ((evI O it s).bind fun xs s => if !tgIn ow tg then Rs.stuck else (wipeC ow s).bind fun _ s => compO ow tg (fun s => evT O ifs s) (fun acc s => evA O a acc s) xs acc s) P (fun _ _ => False) := hw
    refine ⟨W, s, R, (wpG_bind.mp hw).mono (fun xs s1 h1 J H1 m1 R1 it => ?_) fun _ _ z => z.elim⟩
    split at h1
    · exact h1.elim
    · rename_i ht
      have ht : tgIn ow tg = true := by simpa using ht
      obtain ⟨o1, h2⟩ := wpG_wipeC (wpG_bind.mp h1)
      obtain ⟨R2, m2⟩ := R1.wipe o1
      have m12 := m1.trans m2
      refine turns_ok (acc := acc) (si := wipeS s1 ow) A ht wD it nD wipe_idem (hob.mv m12.kp fun u e => m12.keep D u e fun z => (R.ownTrk z).2 wD) wiped_own R2 (m0.trans m12) m2.kp h2 fun acc' s' H' hob' _ R' m' k' p => ?_
      exact go acc' s' _ H' (wipe_less sub) m' (m1.kp.trans k') R' hob' p
variable (O K mg) in
def taOf : CA → Addr → TAc
  | .lst e => tEmL (tE O K mg noWx e)
  | .dic k v => tEmD (tE O K mg noWx k) (tE O K mg noWx v)
  | .into ow tg it ifs a => fun D => tInto (tI O K mg noWx it) (tG K mg tg) (tTs O K mg noWx ifs) (taOf a D) ow
def subOk : CA → List Nat → Prop
  | .into ow _ _ _ a, vs => (∀ i ∈ ow, i ∈ vs) ∧ subOk a ow
  | _, _ => True
def accHO : CA → HO
  | .lst _ => .lst []
  | .dic _ _ => .dK []
  | .into _ _ _ _ a => accHO a
theorem act_ok : ∀ (a : CA) {D : Addr} {vs : List Nat}, subOk a vs → ActOk K mg (fun acc s => evA O a acc s) D (taOf O K mg a D) vs
  | .lst _, _, _, _ => act_lst
  | .dic _ _, _, _, _ => act_dic
  | .into _ _ _ _ a, _, _, h => act_into (act_ok a h.2) h.1
theorem acc_new {W : Addr → Prop} {H : Hp} {D : Addr} : ∀ (a : CA), ObAt K mg W (upd H D (accHO a)) D (newA a)
  | .lst _ => .lst upd_same .nil (Nat.zero_le _)
  | .dic _ _ => .dic upd_same rfl .nil (Nat.zero_le _)
  | .into _ _ _ _ a => acc_new a
theorem cs_gen {ow : List Nat} {tg : CT} {it : CI} {ifs : CEs} {a : CA} {σ : L2.St} {H : Hp} {Q : VK} (sub : subOk a ow) (h : tE O K mg Wx (.gen ow tg it ifs a) σ H Q) :
    tGen (accHO a) (tI O K mg Wx it) (tG K mg tg) (tTs O K mg noWx ifs) (taOf O K mg a) ow σ H Q := by
  obtain ⟨W0, s, R, h⟩ := h
  have h : wpG ((evI O it s).bind fun xs s0 => if !tgIn ow tg then Rs.stuck else (wipeC ow s0).bind fun _ s =>
    noX ((compO ow tg (fun s => evT O ifs s) (fun acc s => evA O a acc s) xs (newA a) s).bind fun acc s' => .ok (RV.own acc) (backS s0 s' ow))) _ _ := h
  refine ⟨W0, s, R, (wpG_bind.mp h).mono (fun xs s0 h1 => ?_) fun _ _ h => h⟩
  intro J H1 m0 R0 it D hD
  split at h1
  · exact h1.elim
  · rename_i ht
    have ht : tgIn ow tg = true := by simpa using ht
    obtain ⟨o0, h2⟩ := wpG_wipeC (wpG_bind.mp h1)
    have h3 := wpG_bind.mp (wpG_noX h2)
    obtain ⟨Rw, mw⟩ := R0.wipe o0
    have nD0 : ¬ W0 D := fun z => R0.out D z hD
    have o2 : ∀ b, plus W0 D b → W0 b ∨ H1 b = none := fun b z => z.elim .inl fun z => .inr (z ▸ hD)
    have g := grow_upd (o := accHO a) hD
    have R1 : Rel K mg (plus W0 D) (wipeS s0 ow) (L2.wipe σ ow) (upd H1 D (accHO a)) := Rw.grow g (fun b z => z.elim (fun z => (Mv.grow (s := s0) (σ := σ) g).trk b (R0.out b z)) fun z => by rw [z, upd_same]; exact fun z => by cases z) o2
    have m1 : Mv s0 σ H1 (wipeS s0 ow) (L2.wipe σ ow) (upd H1 D (accHO a)) := mw.trans (Mv.grow g)
    have k1 : Keep (Wf W0 s0 σ) H1 (Wf (plus W0 D) (wipeS s0 ow) (L2.wipe σ ow)) (upd H1 D (accHO a)) := ⟨fun b u e n => m1.keep b u e fun z => n (.inr z), fun b z => z.elim (fun z => (o2 b z).imp .inl id) fun z => (m1.own b z).imp .inr id⟩
    refine turns_ok (W := plus W0 D) (act_ok a sub) ht (.inr rfl) it hD wipe_idem (acc_new a) wiped_own R1 m1 k1 h3 fun acc sc H' hob oi Ri mi _ hw => hw _ _ ?_
    obtain ⟨Rb, mb⟩ := R0.back o0 oi Ri mi o2
    have nb : ¬ OwnP (backS s0 sc ow) σ D := fun z => (Rb.ownTrk z).2 (.inr rfl)
    refine ⟨m0.trans mb, D, rfl, m0.fresh hD, nD0, nb, Rb, hob.mv ⟨fun _ _ h _ => h, fun b z => ?_⟩ fun _ e => e⟩
    rcases z with z | ⟨j, z1, z2⟩
    · exact .inl (.inl z)
    · refine .inl (.inr ⟨j, ?_⟩)
      have out : j ∉ ow := fun hj => by
        have no := any_own o0 hj
        have len : sc.length = s0.length := by rw [Ri.len, R0.len, wipe_length]
        by_cases q : j < sc.length
        · rw [backS_in hj q, List.getElem?_eq_getElem (by omega)] at z1
          rw [List.getElem?_eq_getElem (by omega)] at no
          have z1 : isOwn (some s0[j]) = true := z1
          rw [no] at z1
          cases z1
        · rw [List.getElem?_eq_none (by rw [backS_len]; omega)] at z1
          cases z1
      rw [backS_out out] at z1
      exact ⟨z1, by rw [wipe_out out]; exact z2⟩
end
end GS

/-! GN2: zip, list(zip(..)), d.update(..) in the evaluator. -/
namespace GS
open PySem PySem.Spec PyProof.Rows L2

section
variable {K : PySem.W.Frag} {mg : Str → Option Value} {W : Addr → Prop} {H : Hp}
theorem rep_seq {d : D} {xs : List D} {v : V} (r : Rep K mg W H d v) (e : seqD d = some xs) : ∃ t a vs, v = .ref a ∧ (∀ {W' H'}, Keep W H W' H' → SqK t K H' a vs) ∧ RepA K mg W H xs vs ∧ xs.length ≤ sizeLine := by
  unfold seqD at e
  split at e
  · cases e
    cases r with
    | lst g r l => exact ⟨false, _, _, rfl, fun k => (g.mv k).sq, r, l⟩
  · cases e
    cases r with
    | tup g r l => exact ⟨true, _, _, rfl, fun k => (g.mv k).sq, r, l⟩
  · cases e
theorem RepA.of {ds : List D} {vs : List V} (l : ds.length = vs.length) (h : ∀ (i : Nat) (d : D) (v : V), ds[i]? = some d → vs[i]? = some v → Rep K mg W H d v) : RepA K mg W H ds vs := by
  induction ds generalizing vs with
  | nil =>
    cases vs with
    | nil => exact .nil
    | cons _ _ => cases l
  | cons d ds ih =>
    cases vs with
    | nil => cases l
    | cons v vs => exact .cons (h 0 d v rfl rfl) (ih (Nat.succ.inj l) fun i d' v' e1 e2 => h (i + 1) d' v' e1 e2)
theorem zipD_len (xs ys : List D) : (zipD xs ys).length = min xs.length ys.length := by
  unfold zipD
  exact List.length_zipWith
theorem zipD_at {xs ys : List D} {i : Nat} {x y : D} (h1 : xs[i]? = some x) (h2 : ys[i]? = some y) : (zipD xs ys)[i]? = some (.tuple [x, y]) := by
  unfold zipD
  rw [List.getElem?_zipWith, h1, h2]
theorem two_le : (2 : Nat) ≤ sizeLine := by rw [sizeLine_eq]; decide
theorem iter_zip {st t1 t2 : Bool} {a b : Addr} {xs ys : List D} {vs ws : List V} (q1 : ∀ {W' H'}, Keep W H W' H' → SqK t1 K H' a vs) (q2 : ∀ {W' H'}, Keep W H W' H' → SqK t2 K H' b ws) (r1 : RepA K mg W H xs vs) (r2 : RepA K mg W H ys ws) (len : st = true → xs.length = ys.length) :
    IterOf K mg W (ItZ K st t1 t2 a b) H (zipD xs ys) where
  go := fun W' H' i k hi => by
    rw [zipD_len, r1.len, r2.len] at hi
    have l1 : i < vs.length := Nat.lt_of_lt_of_le hi (Nat.min_le_left _ _)
    have l2 : i < ws.length := Nat.lt_of_lt_of_le hi (Nat.min_le_right _ _)
    exact ⟨vs, ws, vs[i], ws[i], q1 k, q2 k, List.getElem?_eq_getElem l1, List.getElem?_eq_getElem l2⟩
  yld := fun W' H' i x H2 k hi trk y => by
    obtain ⟨T, u, w, rfl, new, rfl, y1, y2⟩ := y
    obtain ⟨d1, e1, g1⟩ := (r1.mv k).at' (y1 vs (q1 k))
    obtain ⟨d2, e2, g2⟩ := (r2.mv k).at' (y2 ws (q2 k))
    have kg : Keep W' H' W' (upd H' T (.tup [u, w])) := kp_grow (grow_upd new)
    exact ⟨grow_upd new, _, zipD_at e1 e2, .tup (.inl ⟨.inl upd_same, fun z => trk T z new⟩) (.cons (g1.mv kg) (.cons (g2.mv kg) .nil)) two_le⟩
  stop := fun W' H' i k hi => by
    rw [zipD_len, r1.len, r2.len] at hi
    refine ⟨vs, ws, q1 k, q2 k, ?_⟩
    cases st with
    | true =>
      have l := len rfl
      rw [r1.len, r2.len] at l
      rw [if_pos rfl]
      omega
    | false =>
      rw [if_neg Bool.false_ne_true]
      omega
end
section
variable {O : Ora} {K : PySem.W.Frag} {mg : Str → Option Value} {Wx : L2.WX} {W0 : Addr → Prop} {σ : L2.St} {H : Hp} {a b e : GS.CE} {Q : VK}
theorem cs_zip {st : Bool} {R : It → Hp → Prop} (h : tI O K mg Wx (.zip st a b) σ H R) : iZipK K st (tCons (tE O K mg Wx a) (tCons (tE O K mg Wx b) tNil)) σ H R := by
  obtain ⟨W0, s, R0, h⟩ := h
  refine tE_of R0 (wpG_bind.mp h) (fun xv s1 v H1 P1 h1 => ?_) EW.id
  obtain ⟨x, s2, e2, h2⟩ := wpG_frz (wpG_bind.mp h1)
  obtain ⟨R2, m2, rx⟩ := frz_ok P1.rel P1.op e2
  have m12 := P1.mv.trans m2
  refine tE_of R2 (wpG_bind.mp h2) (fun yv s3 w H3 P3 h3 => ?_) (xpre m12 EW.id)
  obtain ⟨y, s4, e4, h4⟩ := wpG_frz (wpG_bind.mp h3)
  obtain ⟨R4, m4, ry⟩ := frz_ok P3.rel P3.op e4
  have m24 := P3.mv.trans m4
  split at h4
  · rename_i xs ys g1 g2
    split at h4
    · rename_i c
      obtain ⟨t1, p, vs, rfl, q1, r1, _⟩ := rep_seq (rx.mv m24.kp) g1
      obtain ⟨t2, q, ws, rfl, q2, r2, _⟩ := rep_seq ry g2
      refine ⟨p, q, t1, t2, vs, ws, rfl, q1 ⟨fun _ _ h _ => h, fun _ z => .inl z⟩, q2 ⟨fun _ _ h _ => h, fun _ z => .inl z⟩, h4 _ _ (m12.trans m24) R4 (iter_zip q1 q2 r1 r2 fun z => ?_)⟩
      subst z
      simpa using c
    · exact h4.elim
  · exact h4.elim
theorem cs_lzip (h : tE O K mg Wx (.lzip a b) σ H Q) : tListZip K (tCons (tE O K mg Wx a) (tCons (tE O K mg Wx b) tNil)) σ H Q := by
  obtain ⟨W0, s, R0, h⟩ := h
  refine tE_of R0 (wpG_bind.mp h) (fun xv s1 v H1 P1 h1 => ?_) EW.id
  obtain ⟨x, s2, e2, h2⟩ := wpG_frz (wpG_bind.mp h1)
  obtain ⟨R2, m2, rx⟩ := frz_ok P1.rel P1.op e2
  have m12 := P1.mv.trans m2
  refine tE_of R2 (wpG_bind.mp h2) (fun yv s3 w H3 P3 h3 => ?_) (xpre m12 EW.id)
  obtain ⟨y, s4, e4, h4⟩ := wpG_frz (wpG_bind.mp h3)
  obtain ⟨R4, m4, ry⟩ := frz_ok P3.rel P3.op e4
  have m24 := P3.mv.trans m4
  split at h4
  · rename_i xs ys g1 g2
    split at h4
    · rename_i c
      have c : xs.length = ys.length := by simpa using c
      obtain ⟨t1, p, vs, rfl, q1, r1, l1⟩ := rep_seq (rx.mv m24.kp) g1
      obtain ⟨t2, q, ws, rfl, q2, r2, l2⟩ := rep_seq ry g2
      have lv : ws.length = vs.length := by rw [← r1.len, ← r2.len, c]
      refine ⟨p, q, t1, t2, vs, ws, rfl, q1 ⟨fun _ _ h _ => h, fun _ z => .inl z⟩, q2 ⟨fun _ _ h _ => h, fun _ z => .inl z⟩, lv, by rw [← r1.len]; exact l1, fun H' n ts np => h4 _ _ (PostV.post R4 (m12.trans m24) ?_)⟩
      have grow : ∀ c u, H3 c = some u → H' c = some u := fun c u e => by
        rw [np.same c (fun z => by rw [z, np.fresh] at e; cases e) fun z => by rw [np.freshes c z] at e; cases e]
        exact e
      refine ⟨grow, n, rfl, np.fresh, .lst np.list (RepA.of ?_ fun i d v e1 e2 => ?_) ?_⟩
      · rw [List.length_map, np.len, List.length_zip, zipD_len, r1.len, r2.len]
      · have e2' : (ts[i]?).map V.ref = some v := by rw [← List.getElem?_map]; exact e2
        obtain ⟨t, e3, rfl⟩ := some_map e2'
        have lt : i < min xs.length ys.length := by
          rw [← zipD_len]
          exact (List.getElem?_eq_some_iff.mp e1).1
        have l3 : i < xs.length := by omega
        have l4 : i < ys.length := by omega
        have f1 := List.getElem?_eq_getElem l3
        have f2 := List.getElem?_eq_getElem l4
        rw [zipD_at f1 f2] at e1
        cases e1
        obtain ⟨u1, f3, g3⟩ := r1.get f1
        obtain ⟨u2, f4, g4⟩ := r2.get f2
        have f5 : (vs.zip ws)[i]? = some (u1, u2) := List.getElem?_zip_eq_some.mpr ⟨f3, f4⟩
        have at' := np.pairs i t _ e3 f5
        have kg : Keep (Wf W0 s4 σ) H3 (plus (Wf W0 s4 σ) n) H' := ⟨fun c u e _ => grow c u e, fun c z => z.elim .inl fun z => .inr (z ▸ np.fresh)⟩
        have mem := List.mem_of_getElem? e3
        refine .tup (.inl ⟨.inl at', fun z => z.elim (fun z => wf_trk R4 t z (np.freshes t mem)) fun z => np.apart (z ▸ mem)⟩) (.cons (g3.mv kg) (.cons (g4.mv kg) .nil)) two_le
      · rw [zipD_len]
        omega
    · exact h4.elim
  · exact h4.elim
theorem isDic_of {s : Ev} {i : Nat} (h : (!isDic (ownAt s i)) = true → False) : ∃ kvs, ownAt s i = some (.dic kvs) := by
  cases e : ownAt s i with
  | none => exact (h (by rw [e]; rfl)).elim
  | some o =>
    cases o with
    | lst xs => exact (h (by rw [e]; rfl)).elim
    | dic kvs => exact ⟨kvs, rfl⟩
theorem cs_upd {i : Nat} (h : tE O K mg Wx (.upd i e) σ H Q) : tBM K "dict" rUpdate (tVar i) (tCons (tE O K mg Wx e) tNil) σ H Q := by
  obtain ⟨W0, s, R, h⟩ := h
  have h : wpG (if !isDic (ownAt s i) then Rs.stuck else (ev O e s).bind fun x s => (frz x s).bind fun d s => match d, ownAt s i with
    | .dict more, some (.dic kvs) => if !isFnB more && decide (kvs.length + more.length ≤ sizeLine) then Rs.ok (RV.d .none) (setOb s i (.dic (mergeD kvs more))) else .stuck
    | _, _ => .stuck) _ _ := h
  split at h
  · exact h.elim
  · rename_i hi
    obtain ⟨kvs0, e0⟩ := isDic_of hi
    obtain ⟨p, hp, n0, ob0⟩ := R.own i _ e0
    refine ⟨_, hp, ?_, ?_⟩
    · cases ob0 with
      | dic g _ _ _ => exact .inr (.inr (.inl ⟨rfl, .inl ⟨_, g⟩⟩))
    · refine tE_of R (wpG_bind.mp h) (fun xv s1 v H1 P1 h1 => ?_) EW.id
      obtain ⟨d, s2, e2, h2⟩ := wpG_frz (wpG_bind.mp h1)
      obtain ⟨R2, m2, rd⟩ := frz_ok P1.rel P1.op e2
      split at h2
      · rename_i more kvs e3
        split at h2
        · rename_i c
          simp only [Bool.and_eq_true, Bool.not_eq_true', decide_eq_true_eq] at c
          obtain ⟨p', hp', n1, ob⟩ := R2.own i _ e3
          rw [hp] at hp'
          cases hp'
          have own : OwnP s2 σ p := ⟨i, own_is e3, hp⟩
          cases rd with
          | @dic q _ mws g1 g2 g3 g4 g5 =>
            cases ob with
            | @dic _ kws k1 k2 k3 k4 =>
              have kv : KvR K mg (Wf W0 s2 σ) H1 (mergeD kvs more) (mergeK kws mws) := KvR.merge ⟨g3, g4⟩ ⟨k2, k3⟩
              have l1 : kvs.length = kws.length := KvR.len (K := K) (mg := mg) (W := Wf W0 s2 σ) (H := H1) ⟨k2, k3⟩
              have l2 : more.length = mws.length := KvR.len (K := K) (mg := mg) (W := Wf W0 s2 σ) (H := H1) ⟨g3, g4⟩
              obtain ⟨R3, m3⟩ := R2.chg (u := .dK (mergeK kws mws)) (o := .dic (mergeD kvs more)) e3 hp fun W' kk => by
                have kv' := kv.mv kk
                have := mergeD_len more kvs
                exact .dic upd_same kv'.ks kv'.vs (by omega)
              exact ⟨p, q, kws, mws, rfl, rfl, fun z => g2 (.inr (z ▸ own)), k1, g1, by rw [← l1, ← l2]; exact c.2, h2 _ _ ⟨(P1.mv.trans m2).trans m3, R3, .non⟩⟩
          | fn _ => exact absurd c.1 (by simp [isFnB])
        · exact h2.elim
      · exact h2.elim
end
end GS

/-! GS12: statements. -/
namespace GS
open PySem PySem.Spec PyProof.Rows L2

section
variable (K : PySem.W.Frag) (mg : Str → Option Value) (Wx : L2.WX) (W0 : Addr → Prop) (s : Ev) (σ : L2.St) (H : Hp)
/-- what a return leaves -/
def RetR (v : RV) (s' : Ev) (σ' : L2.St) (w : V) (H' : Hp) : Prop :=
  match v with
  | .d d => Rel K mg W0 s' σ' H' ∧ Rep K mg (Wf W0 s' σ') H' d w
  | .own o => ∃ p, w = .ref p ∧ (OwnP s σ p ∨ H p = none) ∧ ¬ W0 p ∧ ¬ OwnP s' σ' p ∧ Rel K mg (plus W0 p) s' σ' H' ∧ ObAt K mg (Wf (plus W0 p) s' σ') H' p o
  | .sl _ => False
def EndOf (D : Ends) : Fl → Ev → Prop := fun fl s' =>
  match fl with
  | .nx => ∀ σ' H', Mv s σ H s' σ' H' → Rel K mg W0 s' σ' H' → D.nx σ' H'
  | .brk => ∀ σ' H', Mv s σ H s' σ' H' → Rel K mg W0 s' σ' H' → D.bk σ' H'
  | .ct => ∀ σ' H', Mv s σ H s' σ' H' → Rel K mg W0 s' σ' H' → D.ct σ' H'
  | .ret v => ∀ w σ' H', Mv s σ H s' σ' H' → RetR K mg W0 s σ H v s' σ' w H' → D.rt w H'
def EWs : Xn → Ev → Prop := fun x s' => ∀ c d σ' H', Mv s σ H s' σ' H' → Rel K mg W0 s' σ' H' → XnAt mg x c d H' → Wx c d σ' H'
end
section
variable (O : Ora) (K : PySem.W.Frag) (mg : Str → Option Value) (Wx : L2.WX)
def tS (a : CS) : TS := fun D σ H => ∃ W0 s, Rel K mg W0 s σ H ∧ wpG (exS O a s) (EndOf K mg W0 s σ H D) (EWs K mg Wx W0 s σ H)
def tB (a : CSs) : TS := fun D σ H => ∃ W0 s, Rel K mg W0 s σ H ∧ wpG (exB O a s) (EndOf K mg W0 s σ H D) (EWs K mg Wx W0 s σ H)
end
section
variable {O : Ora} {K : PySem.W.Frag} {mg : Str → Option Value} {Wx : L2.WX} {W0 : Addr → Prop} {s s' s1 s2 : Ev} {σ σ1 : L2.St} {H H' H1 : Hp} {D : Ends} {a b c e : GS.CE} {x y : CS} {r q : CSs}
theorem RetR.pre {v : RV} {σ' : L2.St} {w : V} (m : Mv s σ H s1 σ1 H1) (h : RetR K mg W0 s1 σ1 H1 v s' σ' w H') : RetR K mg W0 s σ H v s' σ' w H' := by
  cases v with
  | d d => exact h
  | sl i => exact h
  | own o =>
    obtain ⟨p, h1, h2, h3⟩ := h
    exact ⟨p, h1, h2.elim (m.own p) fun z => .inr (m.fresh z), h3⟩
theorem EndOf.pre {fl : Fl} (m : Mv s σ H s1 σ1 H1) (h : EndOf K mg W0 s σ H D fl s') : EndOf K mg W0 s1 σ1 H1 D fl s' := by
  cases fl with
  | nx => exact fun σ' H' m' R => h σ' H' (m.trans m') R
  | brk => exact fun σ' H' m' R => h σ' H' (m.trans m') R
  | ct => exact fun σ' H' m' R => h σ' H' (m.trans m') R
  | ret v => exact fun w σ' H' m' R => h w σ' H' (m.trans m') (R.pre m)
theorem EWs.pre {x : Xn} (m : Mv s σ H s1 σ1 H1) (h : EWs K mg Wx W0 s σ H x s') : EWs K mg Wx W0 s1 σ1 H1 x s' := fun c d σ' H' m' R t => h c d σ' H' (m.trans m') R t
theorem EWs.ex {x : Xn} (h : EWs K mg Wx W0 s σ H x s') : ∀ c d H', PostX K mg W0 s σ H x s' c d H' → Wx c d σ H' := fun c d H' P => h c d σ H' P.mv P.rel P.xn
theorem ews : ∀ x s', EWs K mg Wx W0 s σ H x s' → ∀ c d H', PostX K mg W0 s σ H x s' c d H' → Wx c d σ H' := fun _ _ h => h.ex
theorem Rel.take {i : Nat} {o : Ob} (R : Rel K mg W0 s σ H) (h : s[i]? = some (.own o)) : ∃ p, σ[i]? = some (some (.ref p)) ∧ OwnP s σ p ∧ ¬ W0 p ∧ ¬ OwnP (s.set i .emp) σ p ∧ Rel K mg (plus W0 p) (s.set i .emp) σ H ∧ ObAt K mg (Wf (plus W0 p) (s.set i .emp) σ) H p o ∧ Mv s σ H (s.set i .emp) σ H := by
  have hl := lt_of h
  obtain ⟨p, hp, n0, ob⟩ := R.own i o (own_at h)
  have hop : OwnP s σ p := ⟨i, by rw [h]; rfl, hp⟩
  have less : ∀ a, OwnP (s.set i .emp) σ a → OwnP s σ a := fun a z => (own_less rfl z).1
  have np : ¬ OwnP (s.set i .emp) σ p := fun z => by
    obtain ⟨j, h1, h2, h3⟩ := (own_less rfl z).2 hl hp
    exact h1 (R.dis j i p h2 (by rw [h]; rfl) h3 hp)
  have k : Keep (Wf W0 s σ) H (Wf (plus W0 p) (s.set i .emp) σ) H := ⟨fun a u h _ => h, fun a z => .inl (z.elim (fun z => z.elim .inl fun z => .inr (z ▸ hop)) fun z => .inr (less a z))⟩
  refine ⟨p, hp, hop, n0, np, ⟨by rw [List.length_set]; exact R.len, fun a z => z.elim (R.out a) fun z => z ▸ ob.trk, fun j d hj => ?_, fun j q hj => ?_, fun j m a h1 h2 h3 h4 => ?_⟩, ob.mv k fun _ h => h, ⟨fun _ _ h _ => h, fun a z => .inl (less a z), fun _ h => h, fun j hj => ?_⟩⟩
  · by_cases e : i = j
    · subst e; rw [set_at hl] at hj; cases hj
    · rw [set_ne e] at hj
      obtain ⟨v, h1, h2⟩ := R.val j d hj
      exact ⟨v, h1, h2.mv k⟩
  · by_cases e : i = j
    · subst e; unfold ownAt at hj; rw [set_at hl] at hj; cases hj
    · unfold ownAt at hj
      rw [set_ne e] at hj
      obtain ⟨a, h1, h2, h3⟩ := R.own j q hj
      refine ⟨a, h1, fun z => z.elim h2 fun z => ?_, h3.mv k fun _ h => h⟩
      subst z
      exact e (R.dis i j a (by rw [h]; rfl) (own_is hj) hp h1)
  · have g : ∀ n : Nat, isOwn (s.set i .emp)[n]? = true → isOwn s[n]? = true := fun n hn => by
      by_cases e : i = n
      · subst e; rw [set_at hl] at hn; cases hn
      · rw [set_ne e] at hn; exact hn
    exact R.dis j m a (g j h1) (g m h2) h3 h4
  · by_cases e : i = j
    · subst e; rw [h] at hj; cases hj
    · rw [set_ne e]; exact ⟨hj, rfl⟩
theorem ret_ok {rv : RV} {v : V} {fl : Fl} (P : PostE K mg W0 s σ H rv s1 v H1) (e : retV rv s1 = .ok fl s2) : ∃ x, fl = .ret x ∧ Mv s σ H s2 σ H1 ∧ RetR K mg W0 s σ H x s2 σ v H1 := by
  have r := P.rep
  cases rv with
  | d d =>
    cases e
    exact ⟨_, rfl, P.mv, r⟩
  | own o =>
    cases e
    obtain ⟨p, h1, h2, h3, h4, h5, h6⟩ := r
    exact ⟨_, rfl, P.mv, p, h1, .inr h2, h3, h4, h5, h6⟩
  | sl i =>
    have e : (match s1[i]? with
      | some (.own o) => Rs.ok (Fl.ret (.own o)) (s1.set i .emp)
      | some (.val d) => .ok (.ret (.d d)) s1
      | _ => .stuck) = .ok fl s2 := e
    split at e
    · rename_i o q
      cases e
      obtain ⟨p, h1, h2, h3, h4, h5, h6, m⟩ := r.1.take q
      rw [r.2] at h1
      cases h1
      exact ⟨_, rfl, P.mv.trans m, p, rfl, P.mv.own p h2, h3, h4, h5, h6⟩
    · rename_i d q
      cases e
      obtain ⟨u, h1, h2⟩ := r.1.val i _ q
      rw [r.2] at h1
      cases h1
      exact ⟨_, rfl, P.mv, r.1, h2⟩
    · cases e
theorem wpG_ret {rv : RV} {P : Fl → Ev → Prop} {E : Xn → Ev → Prop} (h : wpG (retV rv s) P E) : ∃ fl s', retV rv s = .ok fl s' ∧ P fl s' := by
  cases e : retV rv s with
  | ok a s' => rw [e] at h; exact ⟨a, s', rfl, h⟩
  | stuck => rw [e] at h; exact h.elim
  | er x s' =>
    exfalso
    cases rv with
    | d x => cases e
    | own o => cases e
    | sl i =>
      unfold retV at e
      simp only at e
      split at e <;> cases e
/-! ### blocks -/
theorem cs_snil (h : tB O K mg Wx .nil D σ H) : tNext D σ H := by
  obtain ⟨W0, s, R, h⟩ := h
  exact h σ H .refl R
theorem cs_scons (h : tB O K mg Wx (.cons x r) D σ H) : tSeq (tS O K mg Wx x) (tB O K mg Wx r) D σ H := by
  obtain ⟨W0, s, R, h⟩ := h
  have h : wpG ((exS O x s).bind fun f s => match f with
    | .nx => exB O r s
    | f => .ok f s) _ _ := h
  refine ⟨W0, s, R, (wpG_bind.mp h).mono (fun fl s1 h1 => ?_) fun _ _ h => h⟩
  cases fl with
  | nx => exact fun σ' H' m R' => ⟨W0, s1, R', h1.mono (fun fl s' q => q.pre m) fun x s' q => q.pre m⟩
  | brk => exact h1
  | ct => exact h1
  | ret v => exact h1
theorem cs_pss (h : tS O K mg Wx .pss D σ H) : tNext D σ H := by
  obtain ⟨W0, s, R, h⟩ := h
  exact h σ H .refl R
theorem cs_brk (h : tS O K mg Wx .brk D σ H) : tBreak D σ H := by
  obtain ⟨W0, s, R, h⟩ := h
  exact h σ H .refl R
theorem cs_ct (h : tS O K mg Wx .ct D σ H) : tCont D σ H := by
  obtain ⟨W0, s, R, h⟩ := h
  exact h σ H .refl R
theorem cs_ret (h : tS O K mg Wx (.ret e) D σ H) : tRet (tE O K mg Wx e) D σ H := by
  obtain ⟨W0, s, R, h⟩ := h
  refine tE_of R (wpG_bind.mp h) (fun xv s1 v H1 P1 h1 => ?_) ews
  obtain ⟨fl, s2, e2, h2⟩ := wpG_ret h1
  obtain ⟨x, rfl, m, r⟩ := ret_ok P1 e2
  exact h2 v σ H1 m r
theorem cs_retN (h : tS O K mg Wx .retN D σ H) : tRetN D σ H := by
  obtain ⟨W0, s, R, h⟩ := h
  exact h .non σ H .refl ⟨R, .non⟩
theorem cs_ex (h : tS O K mg Wx (.ex e) D σ H) : tDrop (tE O K mg Wx e) D σ H := by
  obtain ⟨W0, s, R, h⟩ := h
  exact tE_of R (wpG_bind.mp h) (fun xv s1 v H1 P1 h1 => h1 σ H1 P1.mv P1.rel) ews
theorem cs_set {i : Nat} (h : tS O K mg Wx (.set i e) D σ H) : tAsg (tE O K mg Wx e) (gName i) D σ H := by
  obtain ⟨W0, s, R, h⟩ := h
  refine tE_of R (wpG_bind.mp h) (fun xv s1 v H1 P1 h1 => ?_) ews
  obtain ⟨s2, e2, h2⟩ := wpG_putV (wpG_bind.mp h1)
  obtain ⟨m, R2⟩ := putV_ok P1 e2
  exact h2 _ _ m R2
theorem wpG_bindT {tg : CT} {d : GS.D} {P : Unit → Ev → Prop} {E : Xn → Ev → Prop} (h : wpG (bindT tg d s) P E) : wpG (bindT tg d s) P (fun _ _ => False) := by
  have all : ∀ {is : List Nat} {ds : List GS.D} {s : Ev}, wpG (bindAll is ds s) P E → wpG (bindAll is ds s) P (fun _ _ => False) := fun {is} => by
    induction is with
    | nil => intro ds s h; cases ds <;> exact h
    | cons i is ih =>
      intro ds s h
      cases ds with
      | nil => exact h
      | cons d ds =>
        have h : wpG ((putS i (.val d) s).bind fun _ s => bindAll is ds s) P E := h
        obtain ⟨e, h1⟩ := wpG_putS (wpG_bind.mp h)
        show wpG ((putS i (.val d) s).bind fun _ s => bindAll is ds s) P _
        rw [e]
        exact ih h1
  cases tg with
  | nm i =>
    obtain ⟨e, h1⟩ := wpG_putS (show wpG (putS i (.val d) s) P E from h)
    show wpG (putS i (.val d) s) P _
    rw [e]
    exact h1
  | tup is =>
    cases d with
    | tuple ds => exact all h
    | _ => exact h
theorem cs_tset {tg : CT} (h : tS O K mg Wx (.tset tg e) D σ H) : tAsg (tE O K mg Wx e) (tG K mg tg) D σ H := by
  obtain ⟨W0, s, R, h⟩ := h
  refine tE_of R (wpG_bind.mp h) (fun xv s1 v H1 P1 h1 => ?_) ews
  obtain ⟨d, s2, e2, h2⟩ := wpG_frz (wpG_bind.mp h1)
  obtain ⟨R2, m2, r2⟩ := frz_ok P1.rel P1.op e2
  refine ⟨W0, s2, d, R2, r2, (wpG_bindT (wpG_bind.mp h2)).mono (fun _ s3 h3 σ' _ m3 R3 => ?_) fun _ _ z => z⟩
  exact h3 σ' H1 ((P1.mv.trans m2).trans m3) R3
theorem cs_dput {i : Nat} (h : tS O K mg Wx (.dput i a b) D σ H) : sDPut (tVar i) (tE O K mg Wx a) (tE O K mg Wx b) D σ H := by
  obtain ⟨W0, s, R, h⟩ := h
  have h : wpG ((ev O b s).bind fun x s => (frz x s).bind fun x s => if (ownAt s i).isNone then Rs.stuck else (ev O a s).bind fun y s => (frz y s).bind fun y s => match ownAt s i with
    | some o => match mutD "setitem" o [y, x] with
      | some (_, o') => Rs.ok Fl.nx (setOb s i o')
      | none => .stuck
    | none => .stuck) _ _ := h
  refine tE_of R (wpG_bind.mp h) (fun xv s1 v H1 P1 h1 => ?_) ews
  obtain ⟨x, s2, e2, h2⟩ := wpG_frz (wpG_bind.mp h1)
  obtain ⟨R2, m2, rx⟩ := frz_ok P1.rel P1.op e2
  have m12 : Mv s σ H s2 σ H1 := P1.mv.trans m2
  split at h2
  · exact h2.elim
  · rename_i hn
    obtain ⟨o0, e0⟩ := Option.ne_none_iff_exists'.mp (by simpa using hn : ¬ ownAt s2 i = none)
    obtain ⟨p, hp, n0, _⟩ := R2.own i o0 e0
    refine ⟨_, hp, tE_of R2 (wpG_bind.mp h2) (fun yv s3 w H3 P3 h3 => ?_) (xpre m12 ews)⟩
    obtain ⟨y, s4, e4, h4⟩ := wpG_frz (wpG_bind.mp h3)
    obtain ⟨R4, m4, ry⟩ := frz_ok P3.rel P3.op e4
    have m24 : Mv s2 σ H1 s4 σ H3 := P3.mv.trans m4
    split at h4
    · rename_i o e5
      split at h4
      · rename_i _ o' e6
        obtain ⟨p', hp', n1, ob⟩ := R4.own i o e5
        rw [hp] at hp'
        cases hp'
        unfold mutD at e6
        split at e6
        · rename_i q _; exact absurd q (by decide)
        · rename_i q _; exact absurd q (by decide)
        · rename_i q _; exact absurd q (by decide)
        · rename_i kvs k d _ eq
          cases eq
          split at e6
          · rename_i hc
            simp only [Bool.and_eq_true, decide_eq_true_eq] at hc
            cases e6
            obtain ⟨j, rfl⟩ := keyOk_of hc.1
            have hk := keyRep (.of ry)
            subst hk
            cases ob with
            | @dic _ kws h5 h6 h7 h8 =>
              have kv : KvR K mg (Wf W0 s4 σ) H3 kvs kws := ⟨h6, h7⟩
              have rx4 := rx.mv m24.kp
              refine ⟨p, _, rfl, DPut.k h5 (by rw [← kv.len]; exact hc.2), ?_⟩
              obtain ⟨R5, m5⟩ := R4.chg (u := .dK (putK kws j v)) (o := .dic (putD (keyD j) x kvs)) e5 hp fun W' kk => by
                have kv' := (kv.put j rx4).mv kk
                have hl := putD_len (keyD j) x kvs
                exact .dic upd_same kv'.ks kv'.vs (by omega)
              exact h4 _ _ ((m12.trans m24).trans m5) R5
          · cases e6
        · cases e6
      · exact h4.elim
    · exact h4.elim
theorem cs_ifs (h : tS O K mg Wx (.ife c r q) D σ H) : tIfS (tT O K mg Wx c) (tB O K mg Wx r) (tB O K mg Wx q) D σ H := by
  obtain ⟨W0, s, R, h⟩ := h
  refine tT_of R (wpG_bind.mp h) (fun t s1 H1 m R1 h1 => ?_) ews
  cases t with
  | true =>
    rw [if_pos rfl]
    exact ⟨W0, s1, R1, h1.mono (fun fl s' q => q.pre m) fun x s' q => q.pre m⟩
  | false =>
    rw [if_neg Bool.false_ne_true]
    exact ⟨W0, s1, R1, h1.mono (fun fl s' q => q.pre m) fun x s' q => q.pre m⟩
theorem Mv.put {s3 : Ev} {σ2 σ3 : L2.St} {H2 : Hp} {i : Nat} {x : Sl} {v : Option V} (m : Mv s σ H s2 σ2 H2) (hio : isIo s2[i]? = false) (e1 : s3 = s2.set i x) (e2 : σ3 = σ2.set i v) (o : ∀ a, OwnP s3 σ3 a → OwnP s2 σ2 a ∨ H a = none) : Mv s σ H s3 σ3 H2 :=
  ⟨m.keep, fun a z => (o a z).elim (m.own a) .inr, m.trk, fun j hj => by
    obtain ⟨h1, h2⟩ := m.io j hj
    have ne : i ≠ j := fun z => by rw [z, h1] at hio; cases hio
    rw [e1, e2, set_ne ne, sset_ne ne]
    exact ⟨h1, h2⟩⟩
/-- a settled value: plain, or a new object -/
inductive Held (K : PySem.W.Frag) (mg : Str → Option Value) (W0 W1 : Addr → Prop) (s : Ev) (σ : L2.St) (H0 H : Hp) : RV → V → Prop
  | d {d : GS.D} {v : V} (e : ∀ a, W1 a ↔ W0 a) (r : Rep K mg (Wf W1 s σ) H d v) : Held K mg W0 W1 s σ H0 H (.d d) v
  | own {o : Ob} {p : Addr} (e : ∀ a, W1 a ↔ plus W0 p a) (f : H0 p = none) (n0 : ¬ W0 p) (n1 : ¬ OwnP s σ p) (ob : ObAt K mg (Wf W1 s σ) H p o) : Held K mg W0 W1 s σ H0 H (.own o) (.ref p)
theorem Rel.iff {W1 : Addr → Prop} (R : Rel K mg W0 s σ H) (e : ∀ a, W1 a ↔ W0 a) : Rel K mg W1 s σ H :=
  R.grow (fun _ _ h => h) (fun a z => R.out a ((e a).mp z)) fun a z => .inl ((e a).mp z)
theorem stl_ok {rv : RV} {v : V} {x : RV} (P : PostE K mg W0 s σ H rv s1 v H1) (e : stl rv s1 = .ok x s2) : ∃ W1, Rel K mg W1 s2 σ H1 ∧ Held K mg W0 W1 s2 σ H H1 x v ∧ Mv s σ H s2 σ H1 ∧ (∀ a, W0 a → W1 a) := by
  cases rv with
  | d d =>
    cases e
    exact ⟨W0, P.rep.1, .d (fun _ => Iff.rfl) P.rep.2, P.mv, fun _ h => h⟩
  | own o =>
    cases e
    obtain ⟨p, rfl, h2, h3, h4, h5, h6⟩ := P.rep
    exact ⟨plus W0 p, h5, .own (fun _ => Iff.rfl) h2 h3 h4 h6, P.mv, fun _ h => .inl h⟩
  | sl i =>
    have e : ((frz (.sl i) s1).bind fun d s => Rs.ok (RV.d d) s) = .ok x s2 := e
    cases q : frz (.sl i) s1 with
    | er y s3 => rw [q] at e; cases e
    | stuck => rw [q] at e; cases e
    | ok d s3 =>
      rw [q] at e
      cases e
      obtain ⟨R1, m1, r⟩ := frz_ok P.rel P.op q
      exact ⟨W0, R1, .d (fun _ => Iff.rfl) r, P.mv.trans m1, fun _ h => h⟩
theorem wpG_stl {rv : RV} {P : RV → Ev → Prop} {E : Xn → Ev → Prop} (h : wpG (stl rv s) P E) : ∃ x s', stl rv s = .ok x s' ∧ P x s' := by
  cases rv with
  | d d => exact ⟨_, _, rfl, h⟩
  | own o => exact ⟨_, _, rfl, h⟩
  | sl i =>
    have h : wpG ((frz (.sl i) s).bind fun d s => Rs.ok (RV.d d) s) P E := h
    obtain ⟨d, s1, e, h1⟩ := wpG_frz (wpG_bind.mp h)
    exact ⟨_, _, by show ((frz (.sl i) s).bind fun d s => Rs.ok (RV.d d) s) = _; rw [e]; rfl, h1⟩
/-- a settled value goes to a slot -/
theorem held_put {W1 : Addr → Prop} {i : Nat} {x : RV} {v : V} (R : Rel K mg W1 s σ H1) (h : Held K mg W0 W1 s σ H H1 x v) (e : putV i x s = .ok () s2) : Rel K mg W0 s2 (σ.set i (some v)) H1 ∧ isIo s[i]? = false ∧ (∃ sl, s2 = s.set i sl) ∧
    (∀ a, OwnP s2 (σ.set i (some v)) a → OwnP s σ a ∨ (H a = none ∧ W1 a)) ∧ Keep (Wf W1 s σ) H1 (Wf W0 s2 (σ.set i (some v))) H1 := by
  cases h with
  | d e1 r =>
    have e : putS i (.val _) s = .ok () s2 := e
    obtain ⟨h1, h2, rfl⟩ := putS_ok e
    obtain ⟨R2, m⟩ := (R.iff (fun a => (e1 a).symm) : Rel K mg W0 s σ H1).putD h1 h2 (r.mv ⟨fun _ _ h _ => h, fun a z => .inl (z.imp (e1 a).mpr id)⟩)
    have less : ∀ a, OwnP _ (σ.set i (some v)) a → OwnP s σ a := fun a z => (m.own a z).elim (fun z => z) fun q => by
      exact absurd q (R2.ownTrk z).1
    exact ⟨R2, h2, ⟨_, rfl⟩, fun a z => .inl (less a z), ⟨fun _ _ h _ => h, fun a z => .inl (z.imp (e1 a).mpr (less a))⟩⟩
  | @own o p e1 f n0 n1 ob =>
    have e : putS i (.own _) s = .ok () s2 := e
    obtain ⟨h1, h2, rfl⟩ := putS_ok e
    obtain ⟨R2, less⟩ := (R.iff (fun a => (e1 a).symm) : Rel K mg (plus W0 p) s σ H1).putO h1 h2 n0 n1 (ob.mv ⟨fun _ _ h _ => h, fun a z => .inl (z.imp (e1 a).mpr id)⟩ fun _ h => h)
    refine ⟨R2, h2, ⟨_, rfl⟩, fun a z => (less a z).imp id fun (q : a = p) => ⟨q ▸ f, (e1 a).mpr (.inr q)⟩, ⟨fun _ _ h _ => h, fun a z => .inl ?_⟩⟩
    rcases z with z | z
    · exact .inl ((e1 a).mpr (.inl z))
    · rcases less a z with z | z
      · exact .inr z
      · exact .inl ((e1 a).mpr (.inr z))
theorem tE_to {Q Q' : VK} (h : tE O K mg Wx e σ H Q) (m : ∀ x H, Q x H → Q' x H) : tE O K mg Wx e σ H Q' := by
  obtain ⟨W0, s, R, h⟩ := h
  exact ⟨W0, s, R, h.mono (fun rv s' q v H' P => m _ _ (q v H' P)) fun _ _ q => q⟩
theorem cs_parG {i j : Nat} (h : tS O K mg Wx (.par i j a b) D σ H) : tCons (tE O K mg Wx a) (tCons (tE O K mg Wx b) tNil) σ H fun vs H1 => ∃ v w, vs = [v, w] ∧ ∀ H', (∀ a u, H1 a = some u → H' a = some u) → D.nx ((σ.set i (some v)).set j (some w)) H' := by
  obtain ⟨W0, s, R, h⟩ := h
  have h : wpG ((ev O a s).bind fun x s => (stl x s).bind fun x s => (ev O b s).bind fun y s => (stl y s).bind fun y s => (putV i x s).bind fun _ s => (putV j y s).bind fun _ s => Rs.ok Fl.nx s) _ _ := h
  refine tE_of R (wpG_bind.mp h) (fun xv s1 v H1 P1 h1 => ?_) ews
  obtain ⟨x, s2, e2, h2⟩ := wpG_stl (wpG_bind.mp h1)
  obtain ⟨W1, R2, hx, m2, w01⟩ := stl_ok P1 e2
  refine tE_of R2 (wpG_bind.mp h2) (fun yv s3 w H3 P3 h3 => ?_) fun y s' q c d H' P => q.ex c d H' ⟨m2.trans P.mv, P.rel.grow (fun _ _ h => h) (fun a z => P.rel.out a (w01 a z)) fun a z => .inl (w01 a z), P.xn⟩
  obtain ⟨y, s4, e4, h4⟩ := wpG_stl (wpG_bind.mp h3)
  obtain ⟨W2, R4, hy, m4, w12⟩ := stl_ok P3 e4
  obtain ⟨s5, e5, h5⟩ := wpG_putV (wpG_bind.mp h4)
  obtain ⟨s6, e6, h6⟩ := wpG_putV (wpG_bind.mp h5)
  have m04 := m2.trans m4
  -- the first value is held behind the second
  obtain ⟨W1', hx', hy', ew⟩ : ∃ W1', Held K mg W1' W2 s4 σ H H3 x v ∧ (∀ {s5}, Rel K mg W1' s5 (σ.set i (some v)) H3 → Keep (Wf W2 s4 σ) H3 (Wf W1' s5 (σ.set i (some v))) H3 → Held K mg W0 W1' s5 (σ.set i (some v)) H H3 y w) ∧ ∀ a, W2 a → W0 a ∨ H a = none := by
    cases hx with
    | d e1 r =>
      cases hy with
      | d e3 r3 =>
        exact ⟨W0, .d (fun a => (e3 a).trans (e1 a)) (r.mv ⟨fun a u h n => m4.keep a u h fun z => n (.inr z), fun a z => z.elim (fun z => .inl (.inl ((e3 a).mp z))) fun z => (m4.own a z).imp .inr id⟩), fun R5 k5 => .d (fun _ => Iff.rfl) (r3.mv k5), fun a z => .inl ((e1 a).mp ((e3 a).mp z))⟩
      | @own o p e3 f3 n3 n4 ob3 =>
        have e31 : ∀ a, W2 a ↔ plus W0 p a := fun a => (e3 a).trans ⟨fun z => z.imp (e1 a).mp id, fun z => z.imp (e1 a).mpr id⟩
        refine ⟨plus W0 p, .d e31 (r.mv ⟨fun a u h n => m4.keep a u h fun z => n (.inr z), fun a z => z.elim (fun z => ((e3 a).mp z).elim (fun z => .inl (.inl z)) fun (z : a = p) => .inr (z ▸ f3)) fun z => (m4.own a z).imp .inr id⟩), fun R5 k5 => .own (fun _ => Iff.rfl) (m2.fresh f3) (fun z => n3 ((e1 p).mpr z)) (fun z => (R5.ownTrk z).2 (.inr rfl)) (ob3.mv k5 fun _ h => h), fun a z => ((e31 a).mp z).imp id fun (z : a = p) => z ▸ m2.fresh f3⟩
    | @own o1 p1 e1 f1 n1 n2 ob1 =>
      have k1 : p1 ≠ p1 → False := fun z => z rfl
      have hp1 : H1 p1 ≠ none := ob1.trk
      cases hy with
      | d e3 r3 =>
        have e31 : ∀ a, W2 a ↔ plus W0 p1 a := fun a => (e3 a).trans (e1 a)
        refine ⟨W0, .own e31 f1 n1 (fun z => (R4.ownTrk z).2 ((e31 p1).mpr (.inr rfl))) (ob1.mv ⟨fun a u h n => m4.keep a u h fun z => n (.inr z), fun a z => z.elim (fun z => .inl (.inl ((e3 a).mp z))) fun z => (m4.own a z).imp .inr id⟩ fun u h => m4.keep p1 u h n2), fun R5 k5 => .d (fun _ => Iff.rfl) (r3.mv k5), fun a z => ((e31 a).mp z).imp id fun (z : a = p1) => z ▸ f1⟩
      | @own o p e3 f3 n3 n4 ob3 =>
        have ne : p1 ≠ p := fun z => hp1 (z ▸ f3)
        have e31 : ∀ a, W2 a ↔ plus (plus W0 p) p1 a := fun a => (e3 a).trans ⟨fun z => z.elim (fun z => ((e1 a).mp z).elim (fun z => .inl (.inl z)) .inr) fun z => .inl (.inr z), fun z => z.elim (fun z => z.elim (fun z => .inl ((e1 a).mpr (.inl z))) .inr) fun z => .inl ((e1 a).mpr (.inr z))⟩
        refine ⟨plus W0 p, .own e31 f1 (fun z => z.elim n1 ne) (fun z => (R4.ownTrk z).2 ((e31 p1).mpr (.inr rfl))) (ob1.mv ⟨fun a u h n => m4.keep a u h fun z => n (.inr z), fun a z => z.elim (fun z => ((e3 a).mp z).elim (fun z => .inl (.inl z)) fun (z : a = p) => .inr (z ▸ f3)) fun z => (m4.own a z).imp .inr id⟩ fun u h => m4.keep p1 u h n2), fun R5 k5 => .own (fun _ => Iff.rfl) (m2.fresh f3) (fun z => n3 ((e1 p).mpr (.inl z))) (fun z => (R5.ownTrk z).2 (.inr rfl)) (ob3.mv k5 fun _ h => h), fun a z => ((e31 a).mp z).elim (fun z => z.imp id fun (z : a = p) => z ▸ m2.fresh f3) fun (z : a = p1) => .inr (z ▸ f1)⟩
  obtain ⟨R5, io5, ⟨sl5, es5⟩, o5, k5⟩ := held_put R4 hx' e5
  obtain ⟨R6, io6, ⟨sl6, es6⟩, o6, k6⟩ := held_put R5 (hy' R5 k5) e6
  have m5 := m04.put io5 es5 rfl fun a z => (o5 a z).imp id And.left
  have m6 := m5.put io6 es6 rfl fun a z => (o6 a z).imp id And.left
  refine ⟨v, w, rfl, fun H' g => ?_⟩
  have mg := Mv.grow (s := s6) (σ := (σ.set i (some v)).set j (some w)) g
  exact h6 _ _ (m6.trans mg) (R6.grow g (fun a z => mg.trk a (R6.out a z)) fun a z => .inl z)
theorem cs_par {i j : Nat} (h : tS O K mg Wx (.par i j a b) D σ H) : tPar i j (tCons (tE O K mg Wx a) (tCons (tE O K mg Wx b) tNil)) D σ H :=
  tE_to (cs_parG h) fun _ _ q => tE_to q fun _ _ ⟨v, w, e, q⟩ => ⟨v, w, e, q _ fun _ _ h => h⟩
theorem cs_parC {i j : Nat} (h : tS O K mg Wx (.par i j a b) D σ H) : tAsg (tTup (tCons (tE O K mg Wx a) (tCons (tE O K mg Wx b) tNil))) (gTup K 2 (gCons (gName i) (gCons (gName j) gNil))) D σ H :=
  tE_to (cs_parG h) fun v H1 q => tE_to q fun w H2 ⟨v', w', e, q⟩ => by
    cases e
    refine ⟨by show 2 ≤ sizeLine; rw [sizeLine_eq]; decide, fun p hp => ⟨p, _, rfl, .inl (.inl upd_same), rfl, _, _, rfl, _, _, rfl, rfl, q _ (grow_upd hp)⟩⟩
theorem cs_for {tg : CT} {it : CI} (h : tS O K mg Wx (.for_ tg it r) D σ H) : tFor (tI O K mg Wx it) (tG K mg tg) (tB O K mg Wx r) D σ H := by
  obtain ⟨W0, s, R, h⟩ := h
  have h : wpG ((evI O it s).bind fun xs s => forL (bindT tg) (fun s => exB O r s) xs s) _ _ := h
  refine ⟨W0, s, R, (wpG_bind.mp h).mono (fun xs s0 h1 => ?_) fun x s' e => e.ex⟩
  intro J H1 m0 R0 it
  refine ⟨fun i m σi Hi => i ≤ xs.length ∧ m = xs.length - i ∧ ∃ si, Rel K mg W0 si σi Hi ∧ Mv s0 σ H1 si σi Hi ∧ wpG (forL (bindT tg) (fun s => exB O r s) (xs.drop i) si) (EndOf K mg W0 s0 σ H1 D) (EWs K mg Wx W0 s0 σ H1),
    ⟨xs.length, Nat.zero_le _, rfl, s0, R0, .refl, h1.mono (fun _ _ q => q.pre m0) fun _ _ q => q.pre m0⟩, ?_⟩
  rintro i m σi Hi ⟨hi, rfl, si, Ri, mi, hw⟩
  have kc := mi.kp (W0 := W0)
  by_cases hlt : i < xs.length
  · refine .inr ⟨it.go _ _ i kc hlt, fun σ' H' => ∃ si, Rel K mg W0 si σ' H' ∧ Mv s0 σ H1 si σ' H' ∧ wpG (forL (bindT tg) (fun s => exB O r s) (xs.drop (i + 1)) si) (EndOf K mg W0 s0 σ H1 D) (EWs K mg Wx W0 s0 σ H1),
      fun σ' H' ⟨si, z⟩ => ⟨xs.length - (i + 1), by omega, hlt, rfl, si, z⟩, fun x H' y => ?_⟩
    obtain ⟨gy, d, ed, rd⟩ := it.yld _ _ i x H' kc hlt (wf_trk Ri) y
    have ex : xs.drop i = d :: xs.drop (i + 1) := by
      have : xs[i]? = some xs[i] := by simp [hlt]
      rw [this] at ed
      cases ed
      exact List.drop_eq_getElem_cons hlt
    rw [ex] at hw
    have hw : wpG ((bindT tg d si).bind fun _ s => (exB O r s).bind fun f s => match f with
      | .nx => forL (bindT tg) (fun s => exB O r s) (xs.drop (i + 1)) s
      | .ct => forL (bindT tg) (fun s => exB O r s) (xs.drop (i + 1)) s
      | .brk => Rs.ok .nx s
      | .ret v => .ok (.ret v) s) _ _ := hw
    have gm : Mv si σi Hi si σi H' := Mv.grow gy
    have R' := Ri.grow gy (fun a z => gm.trk a (Ri.out a z)) fun a z => .inl z
    refine ⟨W0, si, d, R', rd, (wpG_bindT (wpG_bind.mp hw)).mono (fun _ s2 hw σ2 _ m2 R2 => ?_) fun _ _ z => z⟩
    have m02 := (mi.trans gm).trans m2
    refine ⟨W0, s2, R2, (wpG_bind.mp hw).mono (fun fl s3 hw => ?_) fun _ _ q => q.pre m02⟩
    cases fl with
    | nx => exact fun σ' H' m3 R3 => ⟨s3, R3, m02.trans m3, hw⟩
    | ct => exact fun σ' H' m3 R3 => ⟨s3, R3, m02.trans m3, hw⟩
    | brk => exact fun σ' H' m3 R3 => hw σ' H' (m02.trans m3) R3
    | ret v => exact EndOf.pre (fl := .ret v) m02 hw
  · have ei : i = xs.length := by omega
    subst ei
    rw [List.drop_length] at hw
    exact .inl ⟨it.stop _ _ _ kc rfl, hw _ _ mi Ri⟩
theorem cs_whl (hO : O.Λ = whileW) (h : tS O K mg Wx (.whl c r) D σ H) : tWhile (tT O K mg Wx c) (tB O K mg Wx r) D σ H := by
  obtain ⟨W0, s, R, h⟩ := h
  have h : wpG (O.Λ (fun s => evB O c s) (fun s => exB O r s) s) _ _ := h
  rw [hO] at h
  obtain ⟨n, h⟩ : ∃ n, wpG (whileN n (fun s => evB O c s) (fun s => exB O r s) s) (EndOf K mg W0 s σ H D) (EWs K mg Wx W0 s σ H) := by
    unfold whileW at h
    split at h
    · exact ⟨_, h⟩
    · exact h.elim
  refine ⟨fun m σi Hi => ∃ si, Rel K mg W0 si σi Hi ∧ Mv s σ H si σi Hi ∧ wpG (whileN m (fun s => evB O c s) (fun s => exB O r s) si) (EndOf K mg W0 s σ H D) (EWs K mg Wx W0 s σ H), ⟨n, s, R, .refl, h⟩, ?_⟩
  rintro m σi Hi ⟨si, Ri, mi, hw⟩
  cases m with
  | zero => exact hw.elim
  | succ m =>
    have hw : wpG ((evB O c si).bind fun t s => if t then (exB O r s).bind fun f s => match f with
      | .nx => whileN m (fun s => evB O c s) (fun s => exB O r s) s
      | .ct => whileN m (fun s => evB O c s) (fun s => exB O r s) s
      | .brk => Rs.ok .nx s
      | .ret v => .ok (.ret v) s
      else .ok .nx s) _ _ := hw
    refine tT_of Ri (wpG_bind.mp hw) (fun t s1 H1 m1 R1 hw => ?_) fun _ _ q => (q.pre mi).ex
    cases t with
    | true =>
      rw [if_pos rfl] at hw ⊢
      have m01 := mi.trans m1
      refine ⟨fun σ' H' => ∃ si, Rel K mg W0 si σ' H' ∧ Mv s σ H si σ' H' ∧ wpG (whileN m (fun s => evB O c s) (fun s => exB O r s) si) (EndOf K mg W0 s σ H D) (EWs K mg Wx W0 s σ H), fun σ' H' z => ⟨m, Nat.lt_succ_self _, z⟩, ?_⟩
      refine ⟨W0, s1, R1, (wpG_bind.mp hw).mono (fun fl s3 hw => ?_) fun _ _ q => q.pre m01⟩
      cases fl with
      | nx => exact fun σ' H' m3 R3 => ⟨s3, R3, m01.trans m3, hw⟩
      | ct => exact fun σ' H' m3 R3 => ⟨s3, R3, m01.trans m3, hw⟩
      | brk => exact fun σ' H' m3 R3 => hw σ' H' (m01.trans m3) R3
      | ret v => exact EndOf.pre (fl := .ret v) m01 hw
    | false =>
      rw [if_neg Bool.false_ne_true] at hw ⊢
      exact hw _ _ (mi.trans m1) R1
end
end GS

/-! GN3: starred targets, code that is never reached. -/
namespace GS
open PySem PySem.Spec PyProof.Rows L2

/-- names, one behind another -/
def gNames : List Nat → TGs
  | [] => gNil
  | i :: r => gCons (gName i) (gNames r)
theorem pgs_star {X : Cx} {t : Expr} {es : List Expr} {g : TG} {u : TGs} {p : Pos} (h1 : L2.PG X t g) (h2 : L2.PGs X es u) : L2.PGs X (.Starred t p :: es) (gCons g u) := by
  refine ⟨fun pins s σ H vs us Q I r h => ?_⟩
  obtain ⟨v, rest, ev, q⟩ := h
  subst ev
  cases r with
  | cons r rr =>
    show wpAny _ _ (assignInOrder (assign t X.env :: (assignEach es X.env).map (·.2)) _) _ _ _
    exact assignInOrder_cons (thn (h1.run pins s σ H _ _ _ I r q) fun _ s1 ⟨σ1, H1, I1, q1⟩ => h2.run pins s1 σ1 H1 _ _ Q I1 rr q1)
section
variable {O : Ora} {K : PySem.W.Frag} {mg : Str → Option Value} {Wx : L2.WX} {W0 : Addr → Prop} {s s' : Ev} {σ : L2.St} {H : Hp} {D : Ends} {e : GS.CE}
theorem cs_nev (h : tS O K mg Wx .nev D σ H) : tNever D σ H := by
  obtain ⟨W0, s, R, h⟩ := h
  exact h.elim
theorem names_bind {P : Unit → Ev → Prop} {E : Xn → Ev → Prop} {js : List Nat} {ws : List V} {Q : L2.St → Hp → Prop} : ∀ {is : List Nat} {ds : List GS.D} {vs : List V} {s : Ev} {σ : L2.St}, Rel K mg W0 s σ H → RepA K mg (Wf W0 s σ) H ds vs → wpG (bindAll is ds s) P E →
    (∀ s' σ', Mv s σ H s' σ' H → Rel K mg W0 s' σ' H → P () s' → gNames js ws σ' H Q) → gNames (is ++ js) (vs ++ ws) σ H Q
  | [], [], vs, s, σ, R, r, h, go => by
    cases r
    exact go s σ .refl R h
  | i :: is, d :: ds, vs, s, σ, R, r, h, go => by
    cases r with
    | @cons _ v _ vs r1 r =>
      have h : wpG ((putS i (.val d) s).bind fun _ s => bindAll is ds s) P E := h
      obtain ⟨e, h1⟩ := wpG_putS (wpG_bind.mp h)
      obtain ⟨l1, l2, _⟩ := putS_ok e
      obtain ⟨R1, m1⟩ := R.putD l1 l2 r1
      exact ⟨v, vs ++ ws, rfl, names_bind R1 (r.mv m1.kp) h1 fun s' σ' m R' p => go s' σ' (m1.trans m) R' p⟩
  | [], _ :: _, _, _, _, _, _, h, _ => h.elim
  | _ :: _, [], _, _, _, _, _, h, _ => h.elim
theorem cs_sset {pre post : List Nat} {m : Nat} (h : tS O K mg Wx (.sset pre m post e) D σ H) : tAsg (tE O K mg Wx e) (gStar K (pre.length + 1 + post.length) pre.length (gNames (pre ++ m :: post))) D σ H := by
  obtain ⟨W0, s, R, h⟩ := h
  refine tE_of R (wpG_bind.mp h) (fun xv s1 v H1 P1 h1 => ?_) ews
  obtain ⟨d, s2, e2, h2⟩ := wpG_frz (wpG_bind.mp h1)
  obtain ⟨R2, m2, rd⟩ := frz_ok P1.rel P1.op e2
  have m02 := P1.mv.trans m2
  split at h2
  · rename_i xs ex
    split at h2
    · rename_i fit
      obtain ⟨t, a, vs, rfl, sq, r, l⟩ := rep_seq rd ex
      have sq1 := sq ⟨fun _ _ h _ => h, fun _ z => .inl z⟩
      have lv : vs.length = xs.length := r.len.symm
      refine ⟨a, vs, rfl, ?_, by omega, by omega, fun p hp => ?_⟩
      · cases t
        · exact .inr sq1
        · exact .inl sq1
      have g := grow_upd (o := .lst ((vs.drop pre.length).take (vs.length + 1 - (pre.length + 1 + post.length)))) hp
      have R3 : Rel K mg (plus W0 p) s2 σ (upd H1 p (.lst ((vs.drop pre.length).take (vs.length + 1 - (pre.length + 1 + post.length))))) := R2.grow g (fun b z => z.elim (fun z => (Mv.grow (s := s2) (σ := σ) g).trk b (R2.out b z)) fun z => by rw [z, upd_same]; exact fun z => by cases z) fun b z => z.elim .inl fun z => .inr (z ▸ hp)
      have k3 : Keep (Wf W0 s2 σ) H1 (Wf (plus W0 p) s2 σ) (upd H1 p (.lst ((vs.drop pre.length).take (vs.length + 1 - (pre.length + 1 + post.length))))) := ⟨fun b u q _ => g b u q, fun b z => z.elim (fun z => z.elim (fun z => .inl (.inl z)) fun z => .inr (z ▸ hp)) fun z => .inl (.inr z)⟩
      have r3 := r.mv k3
      have dr : ∀ {xs : List GS.D} {vs : List V} {W : Addr → Prop} {H : Hp} (n : Nat), RepA K mg W H xs vs → RepA K mg W H (xs.drop n) (vs.drop n) := fun {xs vs W H} n r => by
        induction n generalizing xs vs with
        | zero => exact r
        | succ n ih =>
          cases r with
          | nil => exact .nil
          | cons _ r => exact ih r
      have m23 := Mv.grow (s := s2) (σ := σ) g
      rw [List.append_assoc]
      refine names_bind (js := m :: post) R3 (r3.take pre.length) (wpG_bind.mp h2) fun s3 σ3 m3 R4 h3 => ?_
      obtain ⟨e4, h4⟩ := wpG_putS (wpG_bind.mp h3)
      obtain ⟨l1, l2, _⟩ := putS_ok e4
      have n0 : ¬ W0 p := fun z => R2.out p z hp
      have n1 : ¬ OwnP s3 σ3 p := fun z => (R4.ownTrk z).2 (.inr rfl)
      have ob : ObAt K mg (Wf (plus W0 p) s3 σ3) (upd H1 p (.lst ((vs.drop pre.length).take (vs.length + 1 - (pre.length + 1 + post.length))))) p (.lst ((xs.drop pre.length).take (xs.length + 1 - (pre.length + 1 + post.length)))) := by
        refine .lst upd_same ?_ (by rw [List.length_take, List.length_drop]; omega)
        rw [r.len]
        exact ((dr _ r3).take _).mv m3.kp
      obtain ⟨R5, less⟩ := R4.putO l1 l2 n0 n1 ob
      have m05 := Mv.put ((m02.trans m23).trans m3) l2 rfl rfl fun b z => (less b z).imp id fun (z : b = p) => by rw [z]; exact m02.fresh hp
      refine ⟨.ref p, _, rfl, ?_⟩
      have kk : Keep (Wf (plus W0 p) s3 σ3) (upd H1 p (.lst ((vs.drop pre.length).take (vs.length + 1 - (pre.length + 1 + post.length))))) (Wf W0 (s3.set m (.own (.lst ((xs.drop pre.length).take (xs.length + 1 - (pre.length + 1 + post.length)))))) (σ3.set m (some (.ref p)))) (upd H1 p (.lst ((vs.drop pre.length).take (vs.length + 1 - (pre.length + 1 + post.length))))) :=
        ⟨fun _ _ h _ => h, fun b z => .inl (z.elim (fun z => .inl (.inl z)) fun z => (less b z).elim .inr fun z => .inl (.inr z))⟩
      have fin := names_bind (js := []) (ws := []) (Q := D.nx) R5 (((dr _ (dr pre.length r3)).mv m3.kp).mv kk) (wpG_bind.mp h4) fun s6 σ6 m6 R6 h6 => (show gNil [] σ6 _ _ from ⟨rfl, h6 σ6 _ (m05.trans m6) R6⟩)
      rw [List.append_nil, List.append_nil] at fin
      rw [lv] at fin ⊢
      exact fin
    · exact h2.elim
  · exact h2.elim
end
end GS

/-! GS13: what a def promises; the context of a translated text. -/
namespace GS
open PySem PySem.Spec PyProof.Rows L2

/-! ### lists of trees -/
theorem kwNames_ok : ∀ {kws : List Keyword} {ks : List Str} (env : Env) (pos : Pos), kwNames kws = some ks → (backToKw pos (keywordEach kws env)).all (·.1.isSome) = true ∧ (backToKw pos (keywordEach kws env)).any (·.1.isNone) = false ∧ (backToKw pos (keywordEach kws env)).filterMap (·.1) = ks
  | [], ks, env, pos, h => by cases h; exact ⟨rfl, rfl, rfl⟩
  | ⟨none, e, p⟩ :: r, ks, env, pos, h => by cases h
  | ⟨some x, e, p⟩ :: r, ks, env, pos, h => by
    have h : (kwNames r).map (x :: ·) = some ks := h
    obtain ⟨k, e1, rfl⟩ := some_map h
    obtain ⟨h1, h2, h3⟩ := kwNames_ok env pos e1
    refine ⟨?_, ?_, ?_⟩
    · show (true && (backToKw pos (keywordEach r env)).all (·.1.isSome)) = true
      rw [h1]; rfl
    · show (false || (backToKw pos (keywordEach r env)).any (·.1.isNone)) = false
      rw [h2]; rfl
    · show x :: (backToKw pos (keywordEach r env)).filterMap (·.1) = x :: k
      rw [h3]
def noStar (e : Expr) : Prop := ∀ (es : List Expr) (env : Env), starEach (e :: es) env = (false, eval e env) :: starEach es env
theorem stars_plain : ∀ {es : List Expr}, (∀ e ∈ es, noStar e) → ∀ (env : Env) (pos : Pos), (backTo pos (starEach es env)).any (·.1) = false ∧ (backTo pos (starEach es env)).all (fun x => !x.1) = true
  | [], _, env, pos => ⟨rfl, rfl⟩
  | e :: es, h, env, pos => by
    obtain ⟨h1, h2⟩ := stars_plain (es := es) (fun e he => h e (List.mem_cons_of_mem _ he)) env pos
    rw [h e List.mem_cons_self]
    refine ⟨?_, ?_⟩
    · show (false || (backTo pos (starEach es env)).any (·.1)) = false
      rw [h1]; rfl
    · show (true && (backTo pos (starEach es env)).all (fun x => !x.1)) = true
      rw [h2]; rfl

/-! ### promises of defs, by the evaluator -/
/-- a default's value -/
def dfV : D → V
  | .bool b => .bl b
  | .int i => .int i
  | .str x => .str x
  | _ => .non
def permV (ps : List PA) (ws : List V) : List V := ps.map fun
  | .pos k => ws.getD k .non
  | .io k => ws.getD k .non
  | .dfl d => dfV d
section
variable (K : PySem.W.Frag) (mg : Str → Option Value) (W : Addr → Prop) (H : Hp)
inductive ArgR : List AV → List V → Prop
  | nil : ArgR [] []
  | d {d : D} {v : V} {as : List AV} {vs : List V} (h : Rep K mg W H d v) (r : ArgR as vs) : ArgR (.d d :: as) (v :: vs)
  | io {o : Ob} {p : Addr} {as : List AV} {vs : List V} (h : ObAt K mg W H p o) (w : W p) (r : ArgR as vs) : ArgR (.io o :: as) (.ref p :: vs)
/-- the address that is lent -/
def lentA : List AV → List V → Option Addr
  | .io _ :: _, .ref p :: _ => some p
  | _ :: as, _ :: vs => lentA as vs
  | _, _ => none
/-- the words behind a call: a new object's address is among them -/
def ResR (v : RV) (w : V) (H' : Hp) (W2 : Addr → Prop) : Prop :=
  match v with
  | .d d => W2 = W ∧ Rep K mg W2 H' d w
  | .own o => ∃ q, w = .ref q ∧ H q = none ∧ W2 = plus W q ∧ ObAt K mg W2 H' q o
  | .sl _ => False
def OutR (lent : Option Addr) (out : Option Ob) (H' : Hp) (W2 : Addr → Prop) : Prop :=
  match lent, out with
  | none, none => True
  | some p, some o => ObAt K mg W2 H' p o
  | _, _ => False
structure PostC (lent : Option Addr) (v : RV) (out : Option Ob) (w : V) (H' : Hp) : Prop where
  keep : ∀ a u, H a = some u → lent ≠ some a → H' a = some u
  trk : ∀ a, H a ≠ none → H' a ≠ none
  rep : ∃ W2, ResR K mg W H v w H' W2 ∧ OutR K mg lent out H' W2
structure PostCX (lent : Option Addr) (x : Xn) (out : Option Ob) (c : Value) (d : Option Addr) (H' : Hp) : Prop where
  keep : ∀ a u, H a = some u → lent ≠ some a → H' a = some u
  trk : ∀ a, H a ≠ none → H' a ≠ none
  xn : XnAt mg x c d H'
  out : OutR K mg lent out H' W
end
/-- the promise: what the evaluator says -/
def spF (K : PySem.W.Frag) (mg : Str → Option Value) (n : Nat) (f : List AV → FR) : Sp := fun vs H Q E => vs.length = n ∧ ∃ (W : Addr → Prop) (as : List AV), (∀ a, W a → H a ≠ none) ∧ ArgR K mg W H as vs ∧
  match f as with
  | .ok v out => ∀ w H', PostC K mg W H (lentA as vs) v out w H' → Q w H'
  | .er x out => ∀ c d H', PostCX K mg W H (lentA as vs) x out c d H' → E c d H'
  | .stuck => False
structure FnG (P : Program) (w : World) (K : PySem.W.Frag) (mg : Str → Option Value) (base : Heap) (k : Nat) (f : Addr) (fd : FuncData) (ps : List Str) (sp : Sp) : Prop where
  run : ∀ (A : Around) (outer : List Env) (s : Shared) (H : Hp) (args : Args) (us : List Value) (vs : List V) (Q : VK) (E : XK), Room k A → A.guards = some [] → Env0 P w K mg base A outer s H → BindsTo s fd args (ps.zip us) → Vals vs us → sp vs H Q E →
    codeAny (model P w) A (.call (.ref f) args) (CR (L2.CX P w) outer P w H s Q E) s
theorem run_fnG {X : Cx} {k n : Nat} {f : Addr} {fd : FuncData} {ps ks : List Str} {sp : Sp} {g : List Value → List Value → List Value} {gV : List V → List V → List V} {Wx : L2.WX} {pins : List (Addr × Obj)} {σ : L2.St} {H : Hp} {s : Shared} {Q : VK} {us ws : List Value} {vs zs : List V}
    (F : FnG X.prog X.w X.K X.mg X.base k f fd ps sp) (hr : Room k X.A) (hg : X.A.guards = some []) (hb : KBn X.K fd ps n ks g gV) (tk : Takes X Wx)
    (I : Inv X pins σ H s) (r : Vals vs us) (rz : Vals zs ws) (l1 : vs.length = n) (l2 : zs.length = ks.length) (h : sp (gV vs zs) H Q (fun c d H' => Wx c d σ H')) : wpAny (model X.prog X.w) X.A (call (.ref f) us (ks.zip ws)) (EP X pins σ Q) X.xe s := by
  have bound := hb.to s us ws I.kIn (by rw [← r.length]; exact l1) (by rw [← rz.length]; exact l2)
  have promise := F.run X.A X.stack s H _ _ _ Q _ hr hg I.env0 bound (hb.rel r rz) h
  exact wpAny_call (codeAny_mono promise fun
    | .error e, t, out => tk e t (XE.of_call I (fun _ _ _ w => w) out)
    | .ok (.ret _), t, out => I.after out
    | .ok .next, t, out => out.elim
    | .ok .brk, t, out => out.elim
    | .ok .cont, t, out => out.elim)
/-- what a call reads of the evaluator: sf the slots as frozen, s as they were -/
def rCall (O : Ora) (K : PySem.W.Frag) (mg : Str → Option Value) (Wx : L2.WX) (f : Str) (ps : List PA) (vs : List V) (σ : L2.St) (H : Hp) (Q : VK) : Prop := ∃ W0 s sf os as, Rel K mg W0 s σ H ∧ Rel K mg W0 sf σ H ∧ OpReps K mg W0 sf σ H os vs ∧ argsOf sf (os.map RV.opd) ps = some as ∧
  match O.Φ f as with
  | .ok v out => ∃ s', outTo sf (lentOf (os.map RV.opd) ps) out = some s' ∧ ((flatR v && (lentOf (os.map RV.opd) ps).isNone) = true → ∀ w H', PostE K mg W0 s σ H v s w H' → Q w H') ∧ ((flatR v && (lentOf (os.map RV.opd) ps).isNone) = false → ∀ w H', PostE K mg W0 sf σ H v s' w H' → Q w H')
  | .er x out => ∃ s', outTo sf (lentOf (os.map RV.opd) ps) out = some s' ∧ ∀ c d H', PostX K mg W0 sf σ H x s' c d H' → Wx c d σ H'
  | .stuck => False
/-- how a def of the module stands -/
structure DefAt (T : Tabs) (O : Ora) (X : Cx) (f : Str) (m : Nat) (ks : List Str) (ps : List PA) : Prop where
  ex : ∃ (fa : Addr) (fd : FuncData) (pn : List Str) (k : Nat) (g : List Value → List Value → List Value) (gV : List V → List V → List V), X.mg f = some (.ref fa) ∧ PySem.W.keepIn X.K (.ref fa) = true ∧ FnG X.prog X.w X.K X.mg X.base k fa fd pn (spF X.K X.mg pn.length (O.Φ f)) ∧ Room k X.A ∧ KBn X.K fd pn m ks g gV ∧
    (∀ vs zs, vs.length = m → zs.length = ks.length → gV vs zs = permV ps (vs ++ zs) ∧ (gV vs zs).length = pn.length)
structure Gd (T : Tabs) (N : List Str) (O : Ora) (S : Scp) (X : Cx) (Wx : L2.WX) : Prop where
  eN : X.N = N
  nd : N.Nodup
  kind : X.env.scope.kind = .function
  sc : X.env.scope = S.sc
  fn : X.fn = S.fn
  calm : X.calm = true
  gu : X.A.guards = some []
  un : X.A.units + 200 < cLine
  loop : O.Λ = whileW
  free : ∀ x, T.free.contains x = true → X.mg x = none
  con : ∀ x, T.con.contains x = true → ∃ v u, X.mg x = some u ∧ RelV v u ∧ ∀ d, O.G x = some d → ∀ W H, Rep X.K X.mg W H d v
  call : ∀ f g m ks ps, T.sig.lookup f = some g → T.pats.contains (f, m, ks) = true → permOf g m ks = some ps → DefAt T O X f m ks ps
  tk : Takes X Wx
theorem Gd.blk {T : Tabs} {N : List Str} {O : Ora} {S : Scp} {X : Cx} {Wx : L2.WX} (G : Gd T N O S X Wx) (scope : Scope) (hk : scope.kind = .function) (s : Shared) (H : Hp) (C : Addr) (cl : List (Str × Addr)) (fp : List Addr) :
    Gd T N O ⟨relS scope S.sc, fun x => scope.names.lookup x == some .cell⟩ (X.blk s H scope (compEnvC scope cl C X.env) fp) noWx where
  eN := G.eN
  nd := G.nd
  kind := hk
  sc := by rw [← G.sc]; rfl
  fn := rfl
  calm := G.calm
  gu := G.gu
  un := G.un
  loop := G.loop
  free := G.free
  con := G.con
  call := fun f g m ks ps h1 h2 h3 => by
    obtain ⟨fa, fd, pn, k, g', gV, z⟩ := (G.call f g m ks ps h1 h2 h3).ex
    exact ⟨fa, fd, pn, k, g', gV, z⟩
  tk := fun u s' ⟨_, _, _, _, _, _, _, _, _, _, _, _, _, _, _, _, h⟩ => h

section
variable {O : Ora} {K : PySem.W.Frag} {mg : Str → Option Value} {Wx : L2.WX} {W0 : Addr → Prop} {s s' s1 sf : Ev} {σ : L2.St} {H H' H1 : Hp}
theorem frzA_ok {os : List Opd} : ∀ {ps : List PA} {s : Ev}, Rel K mg W0 s σ H → Rel K mg W0 (frzA os ps s) σ H ∧ Mv s σ H (frzA os ps s) σ H
  | [], s, R => ⟨R, .refl⟩
  | .dfl d :: r, s, R => frzA_ok (ps := r) R
  | .io k :: r, s, R => frzA_ok (ps := r) R
  | .pos k :: r, s, R => by
    unfold frzA
    split
    · split
      · rename_i o e
        obtain ⟨R1, m1⟩ := R.frz e
        obtain ⟨R2, m2⟩ := frzA_ok (os := os) (ps := r) R1
        exact ⟨R2, m1.trans m2⟩
      · exact frzA_ok (ps := r) R
    · exact frzA_ok (ps := r) R
theorem OpReps.at {os : List RV} {vs : List V} (h : OpReps K mg W0 s σ H os vs) : ∀ {k : Nat} {o : Opd}, (os.map RV.opd)[k]? = some o → ∃ v, vs[k]? = some v ∧ OpRep K mg W0 s σ H v o := by
  induction h with
  | nil => intro k o e; simp at e
  | @cons rv v rvs vs h r ih =>
    intro k o e
    cases k with
    | zero =>
      have e : some rv.opd = some o := e
      cases e
      exact ⟨v, rfl, h⟩
    | succ k => exact ih (k := k) (by simpa using e)
theorem OpReps.len {os : List RV} {vs : List V} (h : OpReps K mg W0 s σ H os vs) : os.length = vs.length := by
  induction h with
  | nil => rfl
  | cons _ _ ih => exact congrArg Nat.succ ih
theorem getV_ok {o : Opd} {d : D} {v : V} (R : Rel K mg W0 s σ H) (h : OpRep K mg W0 s σ H v o) (e : getV s o = some d) : Rep K mg (Wf W0 s σ) H d v := by
  cases o with
  | d x =>
    have e : some x = some d := e
    cases e
    exact h
  | sl i =>
    have h : σ[i]? = some (some v) := h
    unfold getV at e
    simp only at e
    split at e
    · rename_i x q
      cases e
      obtain ⟨u, h1, h2⟩ := R.val i _ q
      rw [h] at h1
      cases h1
      exact h2
    · cases e
theorem dfV_rep {d : D} {W : Addr → Prop} (h : (match d with | .none => true | .bool _ => true | .int _ => true | .str x => PyData.strOk x && decide (x.length ≤ sizeLine) | _ => false) = true) : Rep K mg W H d (dfV d) := by
  cases d with
  | none => exact .non
  | bool b => exact .bl b
  | int i => exact .int i
  | str x =>
    simp only [Bool.and_eq_true, decide_eq_true_eq] at h
    exact .str x h.1 h.2
  | _ => cases h
theorem argsOf_ok {os : List RV} {vs : List V} (R : Rel K mg W0 s σ H) (h : OpReps K mg W0 s σ H os vs) : ∀ {ps : List PA} {as : List AV}, ps.all dfOk = true → argsOf s (os.map RV.opd) ps = some as →
    ArgR K mg (Wf W0 s σ) H as (permV ps vs) ∧ (match lentOf (os.map RV.opd) ps with
      | none => lentA as (permV ps vs) = none
      | some i => ∃ p o, lentA as (permV ps vs) = some p ∧ σ[i]? = some (some (.ref p)) ∧ ownAt s i = some o)
  | [], as, _, e => by
    cases e
    exact ⟨.nil, rfl⟩
  | .pos k :: r, as, hd, e => by
    rw [List.all_cons, Bool.and_eq_true] at hd
    have e : (match ((os.map RV.opd)[k]?).bind (getV s), argsOf s (os.map RV.opd) r with
      | some d, some as => some (AV.d d :: as)
      | _, _ => none) = some as := e
    split at e
    · rename_i d as' e1 e2
      cases e
      obtain ⟨o, e3, e4⟩ := some_bind e1
      obtain ⟨v, h1, h2⟩ := h.at e3
      obtain ⟨h3, h4⟩ := argsOf_ok R h hd.2 e2
      have ev : vs.getD k .non = v := by rw [List.getD_eq_getElem?_getD, h1]; rfl
      refine ⟨?_, ?_⟩
      · show ArgR K mg _ H (.d d :: as') (vs.getD k .non :: permV r vs)
        rw [ev]
        exact .d (getV_ok R h2 e4) h3
      · show match lentOf (os.map RV.opd) r with
          | none => lentA (.d d :: as') (vs.getD k .non :: permV r vs) = none
          | some i => ∃ p o, lentA (.d d :: as') (vs.getD k .non :: permV r vs) = some p ∧ σ[i]? = some (some (.ref p)) ∧ ownAt s i = some o
        exact h4
    · cases e
  | .dfl d :: r, as, hd, e => by
    rw [List.all_cons, Bool.and_eq_true] at hd
    have e : (argsOf s (os.map RV.opd) r).map (AV.d d :: ·) = some as := e
    obtain ⟨as', e1, rfl⟩ := some_map e
    obtain ⟨h3, h4⟩ := argsOf_ok R h hd.2 e1
    exact ⟨.d (dfV_rep hd.1) h3, h4⟩
  | .io k :: r, as, hd, e => by
    rw [List.all_cons, Bool.and_eq_true] at hd
    have e : (match (os.map RV.opd)[k]?, argsOf s (os.map RV.opd) r with
      | some (.sl i), some as => (ownAt s i).map fun o => AV.io o :: as
      | _, _ => none) = some as := e
    split at e
    · rename_i i as' e1 e2
      obtain ⟨o, e3, rfl⟩ := some_map e
      obtain ⟨v, h1, h2⟩ := h.at e1
      obtain ⟨h3, h4⟩ := argsOf_ok R h hd.2 e2
      obtain ⟨p, hp, n0, ob⟩ := R.own i o e3
      have h2 : σ[i]? = some (some v) := h2
      rw [hp] at h2
      cases h2
      have ev : vs.getD k .non = .ref p := by rw [List.getD_eq_getElem?_getD, h1]; rfl
      refine ⟨?_, ?_⟩
      · show ArgR K mg _ H (.io o :: as') (vs.getD k .non :: permV r vs)
        rw [ev]
        exact .io ob (.inr ⟨i, own_is e3, hp⟩) h3
      · have el : lentOf (os.map RV.opd) (.io k :: r) = some i := by
          show (match (os.map RV.opd)[k]? with
            | some (.sl i) => some i
            | _ => none) = some i
          rw [e1]
        rw [el]
        refine ⟨p, o, ?_, hp, e3⟩
        show lentA (.io o :: as') (vs.getD k .non :: permV r vs) = some p
        rw [ev]
        rfl
    · cases e
/-- behind a call -/
theorem call_post {v : RV} {w : V} {l : Option Nat} {lent : Option Addr} {out : Option Ob} (R : Rel K mg W0 s σ H) (hl : match l with
      | none => lent = none
      | some i => ∃ p o, lent = some p ∧ σ[i]? = some (some (.ref p)) ∧ ownAt s i = some o) (e : outTo s l out = some s') (C : PostC K mg (Wf W0 s σ) H lent v out w H') : PostE K mg W0 s σ H v s' w H' := by
  obtain ⟨W2, hr, ho⟩ := C.rep
  -- what is common: a change of one object, growth of the rest
  have main : ∀ (W1 : Addr → Prop), (∀ a, W1 a → H' a ≠ none) → (∀ a, W1 a → W0 a ∨ H a = none) → (∀ a, W2 a ↔ Wf W1 s σ a) → Rel K mg W1 s' σ H' ∧ Mv s σ H s' σ H' ∧ (∀ a, OwnP s' σ a ↔ OwnP s σ a) := fun W1 t1 o1 w2 => by
    cases l with
    | none =>
      subst hl
      cases out with
      | some o => exact ho.elim
      | none =>
        cases e
        have g : ∀ a u, H a = some u → H' a = some u := fun a u h => C.keep a u h (fun z => by cases z)
        exact ⟨R.grow g t1 o1, .grow g, fun a => Iff.rfl⟩
    | some i =>
      obtain ⟨p, o0, rfl, hp, h0⟩ := hl
      cases out with
      | none => cases e
      | some o =>
        have e : some (setOb s i o) = some s' := e
        cases e
        have hi := (setOb_at (o := o) h0).2.2.2
        have hop : OwnP s σ p := ⟨i, hi, hp⟩
        have own : ∀ a, OwnP (setOb s i o) σ a ↔ OwnP s σ a := fun a => ⟨fun ⟨j, h1, h2⟩ => ⟨j, by rw [setOb_own h0] at h1; exact h1, h2⟩, fun ⟨j, h1, h2⟩ => ⟨j, by rw [setOb_own h0]; exact h1, h2⟩⟩
        have k : Keep (Wf W0 s σ) H (Wf W1 (setOb s i o) σ) H' := ⟨fun a u h n => C.keep a u h fun z => n (by cases z; exact .inr hop), fun a z => z.elim (fun z => (o1 a z).imp .inl id) fun z => .inl (.inr ((own a).mp z))⟩
        refine ⟨⟨by rw [setOb_len]; exact R.len, t1, fun j d hj => ?_, fun j o2 hj => ?_, fun j m a h1 h2 => ?_⟩, ⟨fun a u h n => C.keep a u h fun z => n (by cases z; exact hop), fun a z => .inl ((own a).mp z), C.trk, fun j hj => ?_⟩, own⟩
        · by_cases q : i = j
          · subst q
            have := (setOb_at (o := o) h0).2.1
            rw [hj] at this
            cases this
          · rw [setOb_ne q] at hj
            obtain ⟨v, h1, h2⟩ := R.val j d hj
            exact ⟨v, h1, h2.mv k⟩
        · by_cases q : i = j
          · subst q
            rw [(setOb_at h0).1] at hj
            cases hj
            have ob : ObAt K mg W2 H' p o := ho
            obtain ⟨p', h1, h2, h3⟩ := R.own i o0 h0
            rw [hp] at h1
            cases h1
            refine ⟨p, hp, fun z => (o1 p z).elim h2 fun z => h3.trk z, ob.mv ⟨fun _ _ h _ => h, fun a z => .inl ((w2 a).mpr (z.imp id (own a).mp))⟩ fun _ h => h⟩
          · have e2 : ownAt s j = some o2 := by
              unfold ownAt at hj ⊢
              rw [setOb_ne q] at hj
              exact hj
            obtain ⟨a, h1, h2, h3⟩ := R.own j o2 e2
            have ne : a ≠ p := fun z => q (R.dis i j p hi (own_is e2) hp (z ▸ h1))
            exact ⟨a, h1, fun z => (o1 a z).elim h2 fun z => h3.trk z, h3.mv k fun u' e' => C.keep a u' e' fun z => ne (by cases z; rfl)⟩
        · rw [setOb_own h0] at h1 h2
          exact R.dis j m a h1 h2
        · by_cases q : i = j
          · subst q
            exact ⟨(setOb_at h0).2.2.1.trans hj, rfl⟩
          · rw [setOb_ne q]
            exact ⟨hj, rfl⟩
  cases v with
  | d d =>
    obtain ⟨rfl, r⟩ := hr
    obtain ⟨R', m, own⟩ := main W0 (fun a z => C.trk a (R.out a z)) (fun a z => .inl z) (fun a => Iff.rfl)
    exact ⟨m, R', r.mv ⟨fun _ _ h _ => h, fun a z => .inl (z.imp id (own a).mp)⟩⟩
  | own o =>
    obtain ⟨q, rfl, nq, rfl, ob⟩ := hr
    have n0 : ¬ W0 q := fun z => R.out q z nq
    have e2 : ∀ a, plus (Wf W0 s σ) q a ↔ Wf (plus W0 q) s σ a := fun a => ⟨fun z => z.elim (fun z => z.imp .inl id) fun z => .inl (.inr z), fun z => z.elim (fun z => z.imp .inl id) fun z => .inl (.inr z)⟩
    obtain ⟨R', m, own⟩ := main (plus W0 q) (fun a z => z.elim (fun z => C.trk a (R.out a z)) fun z => z ▸ ob.trk) (fun a z => z.imp id fun (z : a = q) => z ▸ nq) e2
    refine ⟨m, q, rfl, nq, n0, fun z => (R'.ownTrk z).2 (.inr rfl), R', ob.mv ⟨fun _ _ h _ => h, fun a z => .inl ((e2 a).mpr (z.imp id (own a).mp))⟩ fun _ h => h⟩
  | sl i => exact hr.elim
theorem call_postX {x : Xn} {c : Value} {d : Option Addr} {l : Option Nat} {lent : Option Addr} {out : Option Ob} (R : Rel K mg W0 s σ H) (hl : match l with
      | none => lent = none
      | some i => ∃ p o, lent = some p ∧ σ[i]? = some (some (.ref p)) ∧ ownAt s i = some o) (e : outTo s l out = some s') (C : PostCX K mg (Wf W0 s σ) H lent x out c d H') : PostX K mg W0 s σ H x s' c d H' := by
  have P := call_post (v := .d .none) (w := .non) R hl e ⟨C.keep, C.trk, _, ⟨rfl, .non⟩, C.out⟩
  exact ⟨P.mv, P.rel, C.xn⟩
theorem flat_rep {v : RV} {w : V} {W W2 : Addr → Prop} {H0 H2 : Hp} (hf : flatR v = true) (r : ResR K mg W H v w H' W2) : ∃ d, v = .d d ∧ ∀ W H, Rep K mg W H d w := by
  unfold flatR at hf
  split at hf
  · cases r.2; exact ⟨_, rfl, fun _ _ => .non⟩
  · cases r.2; exact ⟨_, rfl, fun _ _ => .bl _⟩
  · cases r.2; exact ⟨_, rfl, fun _ _ => .int _⟩
  · obtain ⟨_, r⟩ := r
    cases r with
    | str _ h l => exact ⟨_, rfl, fun _ _ => .str _ h l⟩
  · cases hf
theorem rCall_sp {f : Str} {ps : List PA} {vs : List V} {Q : VK} {n : Nat} (hd : ps.all dfOk = true) (hn : (permV ps vs).length = n) (h : rCall O K mg Wx f ps vs σ H Q) : spF K mg n (O.Φ f) (permV ps vs) H Q (fun c d H' => Wx c d σ H') := by
  obtain ⟨W0, s, sf, os, as, R, Rf, ops, ea, h⟩ := h
  obtain ⟨h1, h2⟩ := argsOf_ok Rf ops hd ea
  refine ⟨hn, _, as, wf_trk Rf, h1, ?_⟩
  split at h
  · rename_i v out eΦ
    obtain ⟨s', eo, q1, q2⟩ := h
    intro w H' C
    by_cases hf : (flatR v && (lentOf (os.map RV.opd) ps).isNone) = true
    · refine q1 hf w H' ?_
      simp only [Bool.and_eq_true, Option.isNone_iff_eq_none] at hf
      rw [hf.2] at h2
      rw [h2] at C
      obtain ⟨W2, r, _⟩ := C.rep
      obtain ⟨d, rfl, rd⟩ := flat_rep (H0 := H) (H2 := H) hf.1 r
      have g : ∀ a u, H a = some u → H' a = some u := fun a u h => C.keep a u h (fun z => by cases z)
      exact ⟨.grow g, R.grow g (fun a z => C.trk a (R.out a z)) (fun a z => .inl z), rd _ _⟩
    · exact q2 (by cases z : (flatR v && (lentOf (os.map RV.opd) ps).isNone) with | true => exact absurd z hf | false => rfl) w H' (call_post Rf h2 eo C)
  · rename_i x out eΦ
    obtain ⟨s', eo, q⟩ := h
    exact fun c d H' C => q c d H' (call_postX Rf h2 eo C)
  · exact h.elim
theorem evs_app : ∀ {es fs : CEs} {s : Ev}, evs O (appE es fs) s = (evs O es s).bind fun a s => (evs O fs s).bind fun b s => .ok (a ++ b) s
  | .nil, fs, s => by
    show evs O fs s = (evs O fs s).bind fun b s => Rs.ok ([] ++ b) s
    cases evs O fs s <;> rfl
  | .cons e r, fs, s => by
    show ((ev O e s).bind fun x s => (evs O (appE r fs) s).bind fun vs s => Rs.ok (x :: vs) s) = (((ev O e s).bind fun x s => (evs O r s).bind fun vs s => Rs.ok (x :: vs) s).bind fun a s => (evs O fs s).bind fun b s => Rs.ok (a ++ b) s)
    cases ev O e s with
    | er x s1 => rfl
    | stuck => rfl
    | ok x s1 =>
      show ((evs O (appE r fs) s1).bind fun vs s => Rs.ok (x :: vs) s) = (((evs O r s1).bind fun vs s => Rs.ok (x :: vs) s).bind fun a s => (evs O fs s).bind fun b s => Rs.ok (a ++ b) s)
      rw [evs_app]
      cases evs O r s1 with
      | er y s2 => rfl
      | stuck => rfl
      | ok vs s2 =>
        show ((evs O fs s2).bind fun b s => Rs.ok (vs ++ b) s).bind (fun vs s => Rs.ok (x :: vs) s) = (evs O fs s2).bind fun b s => Rs.ok (x :: vs ++ b) s
        cases evs O fs s2 <;> rfl
theorem OpReps.app {as bs : List RV} {vs zs : List V} (h : OpReps K mg W0 s σ H as vs) (q : OpReps K mg W0 s σ H bs zs) : OpReps K mg W0 s σ H (as ++ bs) (vs ++ zs) := by
  induction h with
  | nil => exact q
  | cons h _ ih => exact .cons h ih
theorem wpG_len : ∀ {es : CEs} {s : Ev} {P : List RV → Ev → Prop} {E : Xn → Ev → Prop}, wpG (evs O es s) P E → wpG (evs O es s) (fun rvs s' => P rvs s' ∧ rvs.length = lenE es) E
  | .nil, s, P, E, h => ⟨h, rfl⟩
  | .cons e r, s, P, E, h => by
    have h : wpG ((ev O e s).bind fun x s => (evs O r s).bind fun vs s => Rs.ok (x :: vs) s) P E := h
    show wpG ((ev O e s).bind fun x s => (evs O r s).bind fun vs s => Rs.ok (x :: vs) s) _ E
    exact wpG_bind.mpr ((wpG_bind.mp h).mono (fun x s1 h1 => wpG_bind.mpr ((wpG_len (wpG_bind.mp h1)).mono (fun vs s2 h2 => ⟨h2.1, congrArg Nat.succ h2.2⟩) fun _ _ h => h)) fun _ _ h => h)
/-- a call's wish -/
theorem cs_call {f : Str} {es fs : CEs} {ps : List PA} {Q : VK} (h : tE O K mg Wx (.call f (appE es fs) ps) σ H Q) : tEs O K mg Wx es σ H fun vs H1 => tEs O K mg Wx fs σ H1 fun zs H2 => vs.length = lenE es ∧ zs.length = lenE fs ∧ rCall O K mg Wx f ps (vs ++ zs) σ H2 Q := by
  obtain ⟨W0, s, R, h⟩ := h
  have h := wpG_bind.mp h
  rw [evs_app] at h
  refine tEs_of R (wpG_len (wpG_bind.mp h)) (fun as s1 vs H1 P1 ⟨h1, la⟩ => tEs_of P1.rel (wpG_len (wpG_bind.mp h1)) (fun bs s2 zs H2 P2 ⟨h2, lb⟩ => ⟨P1.ops.len ▸ la, P2.ops.len ▸ lb, ?_⟩) (xpre P1.mv EW.id)) EW.id
  have ops := (P1.ops.mv P2.mv).app P2.ops
  have m := P1.mv.trans P2.mv
  obtain ⟨Rf, mf⟩ := frzA_ok (os := (as ++ bs).map RV.opd) (ps := ps) P2.rel
  have h2 : wpG (match argsOf (frzA ((as ++ bs).map RV.opd) ps s2) ((as ++ bs).map RV.opd) ps with
    | some as' => match O.Φ f as' with
      | .ok v out => match outTo (frzA ((as ++ bs).map RV.opd) ps s2) (lentOf ((as ++ bs).map RV.opd) ps) out with
        | some s' => if flatR v && (lentOf ((as ++ bs).map RV.opd) ps).isNone then Rs.ok v s2 else .ok v s'
        | none => .stuck
      | .er x out => match outTo (frzA ((as ++ bs).map RV.opd) ps s2) (lentOf ((as ++ bs).map RV.opd) ps) out with
        | some s' => .er x s'
        | none => .stuck
      | .stuck => .stuck
    | none => .stuck) _ _ := h2
  split at h2
  · rename_i as' ea
    refine ⟨W0, s2, frzA ((as ++ bs).map RV.opd) ps s2, as ++ bs, as', P2.rel, Rf, ops.mv mf, ea, ?_⟩
    split at h2
    · rename_i v out eΦ
      split at h2
      · rename_i s' eo
        refine ⟨s', eo, fun hf w H' P => ?_, fun hf w H' P => ?_⟩
        · rw [if_pos hf] at h2
          exact h2 w H' (P.pre m)
        · rw [if_neg (by rw [hf]; exact Bool.false_ne_true)] at h2
          exact h2 w H' (P.pre (m.trans mf))
      · exact h2.elim
    · rename_i x out eΦ
      split at h2
      · rename_i s' eo
        exact ⟨s', eo, fun c d H' P => h2 c d H' (P.pre (m.trans mf))⟩
      · exact h2.elim
    · exact h2.elim
  · exact h2.elim
end
end GS

/-! GS14: a translated expression does what its core says. -/
namespace GS
open PySem PySem.Spec PyProof.Rows L2

section
variable {T : Tabs} {N : List Str} {O : Ora}
theorem tr_noStar {n : Nat} {S : Scp} {e : Expr} {c : GS.CE} (h : trE T N n S e = some c) : noStar e := by
  cases n with
  | zero => cases h
  | succ n => cases e <;> first | (intro es env; rfl) | cases h
theorem trEs_noStar : ∀ {n : Nat} {S : Scp} {es : List Expr} {c : CEs}, trEs T N n S es = some c → ∀ e ∈ es, noStar e
  | 0, _, _, _, h => by cases h
  | n + 1, S, [], _, h => fun e he => by cases he
  | n + 1, S, a :: r, c, h => by
    unfold trEs at h
    split at h
    · rename_i c1 c2 e1 e2
      intro e he
      rcases List.mem_cons.mp he with rfl | he
      · exact tr_noStar e1
      · exact trEs_noStar e2 e he
    · cases h
theorem tr_noSet {n : Nat} {S : Scp} {e : Expr} {c : GS.CE} (h : trE T N n S e = some c) (op : CmpOp) : behindInMarks op e = false := by
  cases n with
  | zero => cases h
  | succ n => cases e <;> first | rfl | cases h
theorem tr_ix {n : Nat} {S : Scp} {e : Expr} {c : GS.CE} (h : trE T N n S e = some c) : PlainIx e := by
  cases n with
  | zero => cases h
  | succ n => cases e <;> first | (intro o i; rfl) | cases h
theorem tr_noFold {n : Nat} {S : Scp} {e : Expr} {c : GS.CE} (h : trE T N n S e = some c) (env : Env) : ∀ x, foldedSetIterable e env x = pure x := by
  cases n with
  | zero => cases h
  | succ n => cases e <;> first | (intro x; rfl) | cases h
theorem base_plain {o : Expr} {env : Env} {m : Str} (h : noCall0 o = true) : attributeBase o m env (eval o env) = eval o env := by
  cases o <;> first | rfl | skip
  rename_i f args kws pos
  cases args with
  | nil => cases kws with
    | nil => cases h
    | cons _ _ => cases f <;> rfl
  | cons _ _ => cases f <;> rfl
/-! ### names -/
variable {S : Scp} {X : Cx} {Wx : L2.WX}
theorem ix_of {x : Str} {i : Nat} (h : N.idxOf? x = some i) : N[i]? = some x := by
  unfold List.idxOf? at h
  rw [List.findIdx?_eq_some_iff_getElem] at h
  obtain ⟨h1, h2, _⟩ := h
  rw [List.getElem?_eq_getElem h1]
  congr 1
  exact eq_of_beq h2
theorem gl_of (G : Gd T N O S X Wx) {x : Str} (h : glB S.sc x = true) : Gl X x := by
  have e : S.sc.names.lookup x = some .globalImplicit := by
    unfold glB at h
    cases q : S.sc.names.lookup x with
    | none => rw [q] at h; cases h
    | some k => rw [q] at h; cases k <;> first | rfl | cases h
  show X.env.scope.names.lookup x = _
  rw [G.sc]
  exact e
theorem vis_of (G : Gd T N O S X Wx) {x : Str} (h : visB S.sc x = true) : Vis X.env.scope x := by
  unfold Vis
  rw [G.sc]
  unfold visB at h
  split at h <;> first | (rename_i e; exact .inl e) | (rename_i e; exact .inr (.inl e)) | (rename_i e; exact .inr (.inr e)) | cases h
theorem loc_of (G : Gd T N O S X Wx) {x : Str} (h : locB S x = true) : L2.Loc X.env.scope x ∧ (X.fn x = true ∨ X.env.scope.names.lookup x = some .local) := by
  unfold L2.Loc
  rw [G.sc, G.fn]
  unfold locB at h
  split at h
  · rename_i e; exact ⟨.inl e, .inr e⟩
  · rename_i e; exact ⟨.inr e, .inl h⟩
  · cases h
structure PlainName (x : Str) : Prop where
  db : (x == ("__debug__" : Str)) = false
  cd : (x == ("__classdict__" : Str)) = false
  nm : x ≠ "__name__"
theorem plain_of {x : Str} (h : plainN x = true) : PlainName x := by
  unfold plainN at h
  simp only [Bool.and_eq_true, beq_eq_false_iff_ne] at h
  have g : ∀ {b : Bool}, (b == false) = true → b = false := fun {b} h => by cases b <;> first | rfl | cases h
  exact ⟨g h.1.1, g h.1.2, fun e => by
    have z := g h.2
    rw [e] at z
    revert z
    decide⟩
theorem slot_ok (G : Gd T N O S X Wx) {x : Str} {i : Nat} (h : slotOf N S x = some i) : X.N[i]? = some x ∧ Vis X.env.scope x ∧ PlainName x := by
  unfold slotOf at h
  split at h
  · rename_i hc
    rw [Bool.and_eq_true] at hc
    rw [G.eN]
    exact ⟨ix_of h, vis_of G hc.1, plain_of hc.2⟩
  · cases h
theorem tgt_ok (G : Gd T N O S X Wx) {x : Str} {i : Nat} (h : tgtOf N S x = some i) : X.N[i]? = some x ∧ L2.Loc X.env.scope x ∧ (X.fn x = true ∨ X.env.scope.names.lookup x = some .local) ∧ PlainName x := by
  unfold tgtOf at h
  split at h
  · rename_i hc
    rw [Bool.and_eq_true] at hc
    obtain ⟨h1, h2⟩ := loc_of G hc.1
    rw [G.eN]
    exact ⟨ix_of h, h1, h2, plain_of hc.2⟩
  · cases h
theorem pe_slot (G : Gd T N O S X Wx) {x : Str} {i : Nat} {p : Pos} (h : slotOf N S x = some i) : L2.PE X (.Name x p) (tVar i) := by
  obtain ⟨h1, h2, h3⟩ := slot_ok G h
  exact pe_var h1 h2 h3.db h3.cd
/-! ### targets -/
theorem each_ok : ∀ {es : List Expr} {is : List Nat} (env : Env), trTgts N S es = some is → (assignEach es env).length = is.length ∧ (assignEach es env).findIdx? (·.1) = none
  | [], is, env, h => by cases h; exact ⟨rfl, rfl⟩
  | e :: es, is, env, h => by
    cases e with
    | Name x p =>
      have h : (match tgtOf N S x, trTgts N S es with
        | some i, some is => some (i :: is)
        | _, _ => none) = some is := h
      split at h
      · rename_i i js e1 e2
        cases h
        obtain ⟨h1, h2⟩ := each_ok env e2
        refine ⟨congrArg Nat.succ h1, ?_⟩
        show (((false, assign (.Name x p) env) :: assignEach es env).findIdx? (·.1)) = none
        rw [List.findIdx?_cons]
        simp only [h2]
        rfl
      · cases h
    | _ => cases h
theorem pgs_ok (G : Gd T N O S X Wx) : ∀ {es : List Expr} {is : List Nat}, trTgts N S es = some is → L2.PGs X es (tGs X.K X.mg is)
  | [], is, h => by
    cases h
    exact ⟨fun pins s σ H vs us Q I r q => pgs_nil.run pins s σ H vs us Q I r (cs_gnil q)⟩
  | e :: es, is, h => by
    cases e with
    | Name x p =>
      have h : (match tgtOf N S x, trTgts N S es with
        | some i, some is => some (i :: is)
        | _, _ => none) = some is := h
      split at h
      · rename_i i js e1 e2
        cases h
        obtain ⟨h1, h2, h3, h4⟩ := tgt_ok G e1
        have hg : L2.PG X (.Name x p) (gName i) := pg_name (by rw [G.eN]; exact G.nd) h1 h2 h3
        exact ⟨fun pins s σ H vs us Q I r q => (pgs_cons hg (pgs_ok G e2)).run pins s σ H vs us Q I r (cs_gcons q)⟩
      · cases h
    | _ => cases h
theorem pg_ok (G : Gd T N O S X Wx) {e : Expr} {tg : CT} (h : trTgt N S e = some tg) : L2.PG X e (tG X.K X.mg tg) := by
  cases e with
  | Name x p =>
    have h : (tgtOf N S x).map CT.nm = some tg := h
    obtain ⟨i, e1, rfl⟩ := some_map h
    obtain ⟨h1, h2, h3, h4⟩ := tgt_ok G e1
    have hg : L2.PG X (.Name x p) (gName i) := pg_name (by rw [G.eN]; exact G.nd) h1 h2 h3
    exact ⟨fun pins s σ H v u Q I r q => hg.run pins s σ H v u Q I r (cs_gname q)⟩
  | Tuple es k p =>
    have h : (trTgts N S es).map CT.tup = some tg := h
    obtain ⟨is, e1, rfl⟩ := some_map h
    obtain ⟨h1, h2⟩ := each_ok X.env e1
    have hg : L2.PG X (.Tuple es k p) (gTup X.K is.length (tGs X.K X.mg is)) := pg_tup G.calm (pgs_ok G e1) h1 h2
    exact ⟨fun pins s σ H v u Q I r q => hg.run pins s σ H v u Q I r (cs_gtup q)⟩
  | _ => cases h
/-! ### calls -/
theorem tr_len : ∀ {n : Nat} {S : Scp} {es : List Expr} {c : CEs}, trEs T N n S es = some c → lenE c = es.length
  | 0, _, _, _, h => by cases h
  | n + 1, S, [], _, h => by cases h; rfl
  | n + 1, S, a :: r, c, h => by
    unfold trEs at h
    split at h
    · rename_i c1 c2 e1 e2
      cases h
      exact congrArg Nat.succ (tr_len e2)
    · cases h
theorem trK_len : ∀ {n : Nat} {S : Scp} {es : List Keyword} {c : CEs}, trKws T N n S es = some c → lenE c = es.length
  | 0, _, _, _, h => by cases h
  | n + 1, S, [], _, h => by cases h; rfl
  | n + 1, S, ⟨x, a, p⟩ :: r, c, h => by
    unfold trKws at h
    split at h
    · rename_i c1 c2 e1 e2
      cases h
      exact congrArg Nat.succ (trK_len e2)
    · cases h
theorem kw_len : ∀ {kws : List Keyword} {ks : List Str}, kwNames kws = some ks → ks.length = kws.length
  | [], ks, h => by cases h; rfl
  | ⟨none, e, p⟩ :: r, ks, h => by cases h
  | ⟨some x, e, p⟩ :: r, ks, h => by
    have h : (kwNames r).map (x :: ·) = some ks := h
    obtain ⟨k, e1, rfl⟩ := some_map h
    exact congrArg Nat.succ (kw_len e1)
theorem pe_callG {f : Str} {m : Nat} {ks : List Str} {ps : List GS.PA} {e : Expr} {es : List Expr} {kws : List Keyword} {p pos : Pos} {ces cfs : CEs} (G : Gd T N O S X Wx) (hg : Gl X f) (pn : PlainName f) (da : DefAt T O X f m ks ps) (hd : ps.all dfOk = true)
    (hm : lenE ces = m) (hm2 : lenE cfs = ks.length) (ha : L2.PA X (e :: es) (tEs O X.K X.mg Wx ces)) (hk : L2.PK X kws (tEs O X.K X.mg Wx cfs)) (hs : ∀ a ∈ e :: es, noStar a) (hks : kwNames kws = some ks) :
    L2.PE X (.Call (.Name f p) (e :: es) kws pos) (tE O X.K X.mg Wx (.call f (appE ces cfs) ps)) := by
  obtain ⟨fa, fd, pns, k, g, gV, h1, h2, F, hr, hb, hV⟩ := da.ex
  obtain ⟨k1, k2, k3⟩ := kwNames_ok X.env pos hks
  refine ⟨fun pins s σ H Q I h => ?_⟩
  have h := cs_call h
  refine wpAny_Call_Name_kw (ld_glob I hg h1 ?_ pn.db)
  have hpl : ((backTo pos (starEach (e :: es) X.env)).any (·.1) || (backToKw pos (keywordEach kws X.env)).any (·.1.isNone)) = false := by rw [(stars_plain hs X.env pos).1, k2]; rfl
  refine PySem.W.callWith_KW (h₀ := X.base) I.ok.mod.kin h2 k1 (thn (ha.run pos pins s σ H _ I h) fun us s1 ⟨vs, H1, I1, r, q⟩ => ?_) hpl (hs e List.mem_cons_self es X.env)
  refine thn (hk.run pos pins s1 σ H1 _ I1 q) fun ws s2 ⟨zs, H2, I2, rz, l1, l2, q2⟩ => ⟨I2.kIn, ?_⟩
  rw [k3]
  obtain ⟨v1, v2⟩ := hV vs zs (l1.trans hm) (l2.trans hm2)
  have q3 := rCall_sp hd (v1 ▸ v2) q2
  rw [← v1] at q3
  exact run_fnG F hr G.gu hb G.tk I2 r rz (l1.trans hm) (l2.trans hm2) q3
theorem pe_callG0 {f : Str} {ps : List GS.PA} {p pos : Pos} (G : Gd T N O S X Wx) (hg : Gl X f) (pn : PlainName f) (da : DefAt T O X f 0 [] ps) (hd : ps.all dfOk = true) :
    L2.PE X (.Call (.Name f p) [] [] pos) (tE O X.K X.mg Wx (.call f (appE .nil .nil) ps)) := by
  obtain ⟨fa, fd, pns, k, g, gV, h1, h2, F, hr, hb, hV⟩ := da.ex
  refine ⟨fun pins s σ H Q I h => ?_⟩
  obtain ⟨W0, s0, R, h⟩ := cs_call h
  obtain ⟨W1, s1, R1, h⟩ := h [] H ⟨.refl, R, .nil⟩
  obtain ⟨_, _, q2⟩ := h [] H ⟨.refl, R1, .nil⟩
  refine wpAny_Call_Name_kw (ld_glob I hg h1 ?_ pn.db)
  refine PySem.W.callWith_K0 I.kIn h2 ?_
  obtain ⟨v1, v2⟩ := hV [] [] rfl rfl
  have q3 := rCall_sp hd (v1 ▸ v2) q2
  rw [← v1] at q3
  exact run_fnG (ks := []) (us := []) (ws := []) F hr G.gu hb G.tk I .nil .nil rfl rfl q3
end
end GS

/-! GS15: expressions, by induction on the fuel. -/
namespace GS
open PySem PySem.Spec PyProof.Rows L2

theorem nameIn_ok {x : Str} {l : List String} {f : String} (h : nameIn x l = some f) : f ∈ l ∧ x = Str.ofString f := ⟨List.mem_of_find?_eq_some h, eq_of_beq (by simpa using List.find?_some h)⟩
theorem bi_boot : ∀ f ∈ biNames, bootBuiltins (Str.ofString f) = some (biV f) := by decide +kernel
theorem ty_boot : ∀ f ∈ tyNames, bootBuiltins (Str.ofString f) = some (.type f) := by decide +kernel
theorem isi_boot : bootBuiltins (Str.ofString "isinstance") = some (.builtin "isinstance") := by decide +kernel
theorem biV_shape (f : String) : (∃ T, biV f = .type T) ∨ ∃ id, biV f = .builtin id := by
  unfold biV
  split <;> first | exact .inl ⟨_, rfl⟩ | exact .inr ⟨_, rfl⟩
structure MtFacts (m : String) : Prop where
  pa : PlainAttrs (mtT m)
  slot : PySem.Slot (mtT m) (Str.ofString m) (mtT m ++ "." ++ m)
  ty : typeOf (.builtin (mtT m ++ "." ++ m)) = pure (.type "method_descriptor")
theorem mt_facts : ∀ m ∈ methNames, MtFacts m := by
  intro m h
  simp only [methNames, List.mem_cons, List.not_mem_nil, or_false] at h
  rcases h with rfl | rfl | rfl | rfl | rfl | rfl | rfl | rfl
  · exact ⟨F.plainAttrs_str, F.slot_str_startswith, F.type_str_startswith⟩
  · exact ⟨F.plainAttrs_str, F.slot_str_join, F.type_str_join⟩
  · exact ⟨F.plainAttrs_dict, F.slot_dict_get, F.type_dict_get⟩
  · exact ⟨F.plainAttrs_str, F.slot_str_index, F.type_str_index⟩
  · exact ⟨F.plainAttrs_str, F.slot_str_endswith, F.type_str_endswith⟩
  · exact ⟨F.plainAttrs_str, F.slot_str_find, F.type_str_find⟩
  · exact ⟨F.plainAttrs_str, F.slot_str_count, F.type_str_count⟩
  · exact ⟨F.plainAttrs_str, F.slot_str_split, F.type_str_split⟩
structure MuFacts (m : String) : Prop where
  slot : PySem.Slot "list" (Str.ofString m) ("list." ++ m)
  ty : typeOf (.builtin ("list." ++ m)) = pure (.type "method_descriptor")
theorem mu_facts : ∀ m ∈ mutNames, MuFacts m := by
  intro m h
  simp only [mutNames, List.mem_cons, List.not_mem_nil, or_false] at h
  rcases h with rfl | rfl
  · exact ⟨F.slot_list_append, F.type_list_append⟩
  · exact ⟨F.slot_list_pop, F.type_list_pop⟩
section
variable {T : Tabs} {N : List Str} {O : Ora}
structure TrOk (T : Tabs) (N : List Str) (O : Ora) (n : Nat) : Prop where
  e : ∀ {S : Scp} {X : Cx} {Wx : L2.WX} {e : Expr} {c : GS.CE}, Gd T N O S X Wx → trE T N n S e = some c → L2.PE X e (tE O X.K X.mg Wx c)
  t : ∀ {S : Scp} {X : Cx} {Wx : L2.WX} {e : Expr} {c : GS.CE}, Gd T N O S X Wx → trE T N n S e = some c → L2.PT X e (tT O X.K X.mg Wx c)
  w : ∀ {S : Scp} {X : Cx} {Wx : L2.WX} {o : BoolOp} {es : List Expr} {p : Pos} {c : GS.CE}, Gd T N O S X Wx → trE T N n S (.BoolOp o es p) = some c → L2.PW X (.BoolOp o es p) (tT O X.K X.mg Wx c)
  es : ∀ {S : Scp} {X : Cx} {Wx : L2.WX} {es : List Expr} {c : CEs}, Gd T N O S X Wx → trEs T N n S es = some c → L2.PA X es (tEs O X.K X.mg Wx c)
  ks : ∀ {S : Scp} {X : Cx} {Wx : L2.WX} {es : List Keyword} {c : CEs}, Gd T N O S X Wx → trKws T N n S es = some c → L2.PK X es (tEs O X.K X.mg Wx c)
  o : ∀ {S : Scp} {X : Cx} {Wx : L2.WX} {e : Option Expr} {c : CEs}, Gd T N O S X Wx → trO T N n S e = some c → L2.PO X e (tO O X.K X.mg Wx c)
  i : ∀ {S : Scp} {X : Cx} {Wx : L2.WX} {e : Expr} {c : CI}, Gd T N O S X Wx → trI T N n S e = some c → (∀ tg, ciOk tg c = true → L2.PI X tg e (tI O X.K X.mg Wx c)) ∧ ∀ x, foldedSetIterable e X.env x = pure x
variable {S : Scp} {X : Cx} {Wx : L2.WX} {n : Nat}
theorem tr_con (G : Gd T N O S X Wx) {k : Const} {j : Nat} {p : Pos} {c : GS.CE} (h : (conD k).map GS.CE.con = some c) : L2.PE X (.Constant k j p) (tE O X.K X.mg Wx c) := by
  obtain ⟨d, e, rfl⟩ := some_map h
  unfold conD at e
  split at e
  · cases e; exact PE.imp pe_non fun σ H Q q => cs_con (fun _ _ => .non) q
  · cases e; exact PE.imp pe_bl fun σ H Q q => cs_con (fun _ _ => .bl _) q
  · cases e; exact PE.imp pe_int fun σ H Q q => cs_con (fun _ _ => .int _) q
  · split at e
    · rename_i hc
      simp only [Bool.and_eq_true, decide_eq_true_eq] at hc
      cases e
      exact PE.imp pe_str fun σ H Q q => cs_con (fun _ _ => .str _ hc.1 hc.2) q
    · cases e
  · cases e
theorem tr_name (G : Gd T N O S X Wx) {x : Str} {p : Pos} {c : GS.CE} (h : (match slotOf N S x with
      | some i => some (.var i)
      | none => if glB S.sc x && plainN x && T.con.contains x then some (.glob x) else none) = some c) : L2.PE X (.Name x p) (tE O X.K X.mg Wx c) := by
  split at h
  · rename_i i e
    cases h
    exact PE.imp (pe_slot G e) fun σ H Q q => cs_var q
  · split at h
    · rename_i hc
      simp only [Bool.and_eq_true] at hc
      cases h
      obtain ⟨v, u, h1, h2, h3⟩ := G.con x hc.2
      exact PE.imp (pe_glob (gl_of G hc.1.1) h1 h2 (plain_of hc.1.2).db) fun σ H Q q => cs_glob h3 q
    · cases h
theorem pe_negG {a : Expr} {ta : TE} {p : Pos} (ha : L2.PE X a ta) : L2.PE X (.UnaryOp .USub a p) (tNeg ta) := pe_un un_neg ha
theorem pt_iteG {c a b : Expr} {tc ta tb : TT} {p : Pos} (hc : L2.PT X c tc) (ha : L2.PT X a ta) (hb : L2.PT X b tb) : L2.PT X (.IfExp c a b p) (fun σ H Q => tc σ H fun k H1 => if k = true then ta σ H1 Q else tb σ H1 Q) := by
  refine ⟨fun pins s σ H Q I h => ?_⟩
  show wpAny _ _ (do if ← isTrue c X.env (eval c X.env) then isTrue a X.env (eval a X.env) else isTrue b X.env (eval b X.env)) _ _ _
  refine wpAny_bind (thn (hc.run pins s σ H _ I h) fun k s1 ⟨H1, I1, q1⟩ => ?_)
  cases k with
  | true => exact ha.run pins s1 σ H1 Q I1 q1
  | false => exact hb.run pins s1 σ H1 Q I1 q1
/-- a built-in's call -/
theorem pe_biG (G : Gd T N O S X Wx) {f : String} {x : Str} {p pos : Pos} {e : Expr} {es : List Expr} {c : CEs} (hf : nameIn x biNames = some f) (hg : Gl X x) (pn : PlainName x) (hm : X.mg x = none) (ha : L2.PA X (e :: es) (tEs O X.K X.mg Wx c)) (hs : ∀ a ∈ e :: es, noStar a) :
    L2.PE X (.Call (.Name x p) (e :: es) [] pos) (tE O X.K X.mg Wx (.bi f c)) := by
  obtain ⟨h1, h2⟩ := nameIn_ok hf
  have hv : bootBuiltins x = some (biV f) := by rw [h2]; exact bi_boot f h1
  have hc := call_bi (X := X) G.calm G.gu (by have := G.un; omega) f
  have hpl : (backTo pos (starEach es X.env)).any (·.1) = false := (stars_plain (fun a h => hs a (List.mem_cons_of_mem _ h)) X.env pos).1
  rcases biV_shape f with ⟨t, e⟩ | ⟨id, e⟩
  · rw [e] at hv hc
    exact PE.imp (pe_callTy hc hg hm hv ha pn.nm pn.db (hs _ List.mem_cons_self es X.env) hpl) fun σ H Q q => cs_bi q
  · rw [e] at hv hc
    exact PE.imp (pe_callB hc hg hm hv ha pn.nm pn.db (hs _ List.mem_cons_self es X.env) hpl) fun σ H Q q => cs_bi q
theorem pe_isiG (G : Gd T N O S X Wx) {t : String} {x y : Str} {p pos py : Pos} {e : Expr} {c : GS.CE} (hx : x = Str.ofString "isinstance") (hf : nameIn y tyNames = some t) (hg : Gl X x) (pn : PlainName x) (hm : X.mg x = none) (hgy : Gl X y) (pny : PlainName y) (hmy : X.mg y = none)
    (ha : L2.PE X e (tE O X.K X.mg Wx c)) (hs : noStar e) : L2.PE X (.Call (.Name x p) [e, .Name y py] [] pos) (tE O X.K X.mg Wx (.isi c t)) := by
  obtain ⟨h1, h2⟩ := nameIn_ok hf
  have hv : bootBuiltins y = some (.type t) := by rw [h2]; exact ty_boot t h1
  have hvx : bootBuiltins x = some (.builtin "isinstance") := by rw [hx]; exact isi_boot
  have hty : L2.PE X (.Name y py) (tC (.ty t)) := pe_bltn hgy hmy hv rfl pny.nm pny.db
  exact PE.imp (pe_callB (call_isi' h1) hg hm hvx (pa_cons ha (pa_cons hty pa_nil) (hs _ _)) pn.nm pn.db (hs _ _)) fun σ H Q q => cs_isi q
end
end GS

/-! GS16: expressions, the induction. -/
namespace GS
open PySem PySem.Spec PyProof.Rows L2

section
variable {T : Tabs} {N : List Str} {O : Ora} {K : PySem.W.Frag} {mg : Str → Option Value} {Wx : L2.WX} {σ : L2.St} {H : Hp} {a b c e : GS.CE}
theorem tE_mono {Q Q' : VK} (h : tE O K mg Wx e σ H Q) (m : ∀ x H, Q x H → Q' x H) : tE O K mg Wx e σ H Q' := by
  obtain ⟨W0, s, R, h⟩ := h
  exact ⟨W0, s, R, h.mono (fun rv s' q v H' P => m _ _ (q v H' P)) fun _ _ q => q⟩
theorem tT_tE {Q : Bool → Hp → Prop} (h : tT O K mg Wx e σ H Q) : tE O K mg Wx e σ H fun x H1 => ∃ k, TruV K x H1 k ∧ Q k H1 := by
  obtain ⟨W0, s, R, h⟩ := h
  have h : wpG ((ev O e s).bind fun x s => Rs.opt ((x.opd.get s).bind truD) s) _ _ := h
  refine ⟨W0, s, R, (wpG_bind.mp h).mono (fun rv s' q v H' P => ?_) fun _ _ q => q⟩
  obtain ⟨k, e1, q⟩ := wpG_opt q
  exact ⟨k, tru_of P.rel P.op e1, q H' P.mv P.rel⟩
theorem rTru_bl {k : Bool} {Q : Bool → Hp → Prop} (h : ∃ c, TruV K (.bl k) H c ∧ Q c H) : Q k H := by
  obtain ⟨c, t, q⟩ := h
  cases (show c = k from t)
  exact q
theorem rCmp_mono {o : CmpOp} {x y : V} {Q Q' : VK} (h : rCmp K mg o x y H Q) (m : ∀ k H, Q (.bl k) H → Q' (.bl k) H) : rCmp K mg o x y H Q' := by
  obtain ⟨W, a, b, c, h1, h2, h3, q⟩ := h
  exact ⟨W, a, b, c, h1, h2, h3, m _ _ q⟩
theorem ct_cmp {o : CmpOp} {Q : Bool → Hp → Prop} (h : tT O K mg Wx (.cmp o a b) σ H Q) : tTest (tOp (rCmp K mg o) (tE O K mg Wx a) (tE O K mg Wx b)) σ H Q :=
  tE_mono (cs_cmp (tT_tE h)) fun x H1 h => tE_mono h fun y H2 h => rCmp_mono h fun k H3 q => ⟨k, rfl, rTru_bl q⟩
theorem ct_chain {o p : CmpOp} {Q : Bool → Hp → Prop} (h : tT O K mg Wx (.chain o p a b c) σ H Q) : tTest (tChain (rCmp K mg o) (rCmp K mg p) (tE O K mg Wx a) (tE O K mg Wx b) (tE O K mg Wx c)) σ H Q := by
  refine tE_mono (cs_chain (tT_tE h)) fun x H1 h => tE_mono h fun y H2 h => ?_
  obtain ⟨W, d1, d2, k, h1, h2, h3, k', e, h⟩ := h
  cases e
  refine ⟨W, d1, d2, k, h1, h2, h3, k, rfl, ?_⟩
  cases k with
  | true =>
    rw [if_pos rfl] at h ⊢
    exact tE_mono h fun z H4 h => rCmp_mono h fun k H3 q => ⟨k, rfl, rTru_bl q⟩
  | false =>
    rw [if_neg Bool.false_ne_true] at h ⊢
    exact ⟨false, rfl, rTru_bl h⟩
theorem ct_not {Q : Bool → Hp → Prop} (h : tT O K mg Wx (.not a) σ H Q) : tNot (tT O K mg Wx a) σ H Q := by
  obtain ⟨W0, s, R, h⟩ := h
  have h : wpG (((ev O a s).bind fun x s => Rs.opt (((x.opd.get s).bind truD).map fun b => RV.d (.bool (!b))) s).bind fun x s => Rs.opt ((x.opd.get s).bind truD) s) _ _ := h
  refine ⟨W0, s, R, ?_⟩
  show wpG ((ev O a s).bind fun x s => Rs.opt ((x.opd.get s).bind truD) s) _ _
  refine wpG_bind.mpr ((wpG_bind.mp (wpG_bind.mp h)).mono (fun rv s' q => ?_) fun _ _ q => q)
  obtain ⟨y, e1, q⟩ := wpG_opt q
  obtain ⟨k, e2, rfl⟩ := some_map e1
  rw [e2]
  exact q
theorem ct_and {Q : Bool → Hp → Prop} (h : tT O K mg Wx (.and a b) σ H Q) : tAnd (tT O K mg Wx a) (tT O K mg Wx b) σ H Q := by
  obtain ⟨W0, s, R, h⟩ := h
  have h : wpG (((ev O a s).bind fun x s => match (x.opd.get s).bind truD with
    | some true => ev O b s
    | some false => Rs.ok x s
    | none => .stuck).bind fun x s => Rs.opt ((x.opd.get s).bind truD) s) _ _ := h
  refine ⟨W0, s, R, ?_⟩
  show wpG ((ev O a s).bind fun x s => Rs.opt ((x.opd.get s).bind truD) s) _ _
  refine wpG_bind.mpr ((wpG_bind.mp (wpG_bind.mp h)).mono (fun rv s1 q => ?_) fun _ _ q => q)
  split at q
  · rename_i e1
    rw [e1]
    intro H1 m R1
    rw [if_pos rfl]
    exact tT_of R1 (wpG_bind.mpr (show wpG (ev O b s1) _ _ from wpG_bind.mp (wpG_bind.mpr q))) (fun k s2 H2 m2 R2 q => q H2 (m.trans m2) R2) (xpre m EW.id)
  · rename_i e1
    rw [e1]
    intro H1 m R1
    rw [if_neg Bool.false_ne_true]
    have q : wpG (Rs.opt ((rv.opd.get s1).bind truD) s1) _ _ := q
    rw [e1] at q
    exact q H1 m R1
  · exact q.elim
theorem ct_or {Q : Bool → Hp → Prop} (h : tT O K mg Wx (.or a b) σ H Q) : tOr (tT O K mg Wx a) (tT O K mg Wx b) σ H Q := by
  obtain ⟨W0, s, R, h⟩ := h
  have h : wpG (((ev O a s).bind fun x s => match (x.opd.get s).bind truD with
    | some true => Rs.ok x s
    | some false => ev O b s
    | none => .stuck).bind fun x s => Rs.opt ((x.opd.get s).bind truD) s) _ _ := h
  refine ⟨W0, s, R, ?_⟩
  show wpG ((ev O a s).bind fun x s => Rs.opt ((x.opd.get s).bind truD) s) _ _
  refine wpG_bind.mpr ((wpG_bind.mp (wpG_bind.mp h)).mono (fun rv s1 q => ?_) fun _ _ q => q)
  split at q
  · rename_i e1
    rw [e1]
    intro H1 m R1
    rw [if_pos rfl]
    have q : wpG (Rs.opt ((rv.opd.get s1).bind truD) s1) _ _ := q
    rw [e1] at q
    exact q H1 m R1
  · rename_i e1
    rw [e1]
    intro H1 m R1
    rw [if_neg Bool.false_ne_true]
    exact tT_of R1 (wpG_bind.mpr (show wpG (ev O b s1) _ _ from wpG_bind.mp (wpG_bind.mpr q))) (fun k s2 H2 m2 R2 q => q H2 (m.trans m2) R2) (xpre m EW.id)
  · exact q.elim
theorem ct_ite {Q : Bool → Hp → Prop} (h : tT O K mg Wx (.ite c a b) σ H Q) : tT O K mg Wx c σ H fun k H1 => if k = true then tT O K mg Wx a σ H1 Q else tT O K mg Wx b σ H1 Q := by
  obtain ⟨W0, s, R, h⟩ := h
  have h : wpG (((ev O c s).bind fun x s => match (x.opd.get s).bind truD with
    | some true => ev O a s
    | some false => ev O b s
    | none => .stuck).bind fun x s => Rs.opt ((x.opd.get s).bind truD) s) _ _ := h
  refine ⟨W0, s, R, ?_⟩
  show wpG ((ev O c s).bind fun x s => Rs.opt ((x.opd.get s).bind truD) s) _ _
  refine wpG_bind.mpr ((wpG_bind.mp (wpG_bind.mp h)).mono (fun rv s1 q => ?_) fun _ _ q => q)
  split at q
  · rename_i e1
    rw [e1]
    intro H1 m R1
    rw [if_pos rfl]
    exact tT_of R1 (wpG_bind.mpr (show wpG (ev O a s1) _ _ from wpG_bind.mp (wpG_bind.mpr q))) (fun k s2 H2 m2 R2 q => q H2 (m.trans m2) R2) (xpre m EW.id)
  · rename_i e1
    rw [e1]
    intro H1 m R1
    rw [if_neg Bool.false_ne_true]
    exact tT_of R1 (wpG_bind.mpr (show wpG (ev O b s1) _ _ from wpG_bind.mp (wpG_bind.mpr q))) (fun k s2 H2 m2 R2 q => q H2 (m.trans m2) R2) (xpre m EW.id)
  · exact q.elim
end
end GS

/-! GS17: every translated expression. -/
namespace GS
open PySem PySem.Spec PyProof.Rows L2

section
variable {T : Tabs} {N : List Str} {O : Ora} {S : Scp} {X : Cx} {Wx : L2.WX} {n : Nat}
theorem con_key {kk : Const} {d : D} {j : Nat} {p : Pos} (h : conD kk = some d) (hk : keyOk d = true) : L2.PE X (.Constant kk j p) (tC (kvOf d)) := by
  cases kk with
  | none => cases h; cases hk
  | bool b => cases h; cases hk
  | int i => cases h; exact pe_int
  | str x =>
    have h : (if PyData.strOk x && decide (x.length ≤ sizeLine) then some (PyData.str x) else none) = some d := h
    split at h
    · cases h; exact pe_str
    · cases h
  | _ => cases h
theorem trK_dic : ∀ {ks : List (Option Expr)} {ds : List D} {vs : List Expr} {cs : CEs} {m : Nat} {pos : Pos}, (∀ m, m < n + 1 → TrOk T N O m) → Gd T N O S X Wx → trKs ks = some ds → trEs T N m S vs = some cs → m < n + 1 → ks.length = vs.length →
    PPs X pos ks vs (trsOf O X.K X.mg Wx ds cs) ∧ ks.all (·.isSome) = true ∧ ds.length = ks.length
  | [], ds, [], cs, m, pos, I, G, h1, h2, hm, hl => by
    cases h1
    cases m with
    | zero => cases h2
    | succ m => cases h2; exact ⟨pps_nil, rfl, rfl⟩
  | k :: ks, ds, v :: vs, cs, m, pos, I, G, h1, h2, hm, hl => by
    cases m with
    | zero => cases h2
    | succ m =>
      unfold trEs at h2
      split at h2
      · rename_i c1 c2 e1 e2
        cases h2
        cases k with
        | none => cases h1
        | some e =>
          cases e with
          | Constant kk j p =>
            have h1 : (match conD kk, trKs ks with
              | some d, some ds => if keyOk d then some (d :: ds) else none
              | _, _ => none) = some ds := h1
            split at h1
            · rename_i d ds' e3 e4
              split at h1
              · rename_i hk
                cases h1
                obtain ⟨h3, h4, h5⟩ := trK_dic (pos := pos) I G e4 e2 (by omega) (Nat.succ.inj hl)
                exact ⟨pps_cons (con_key e3 hk) ((I m (by omega)).e G e1) h3, by rw [List.all_cons, h4]; rfl, congrArg Nat.succ h5⟩
              · cases h1
            · cases h1
          | _ => cases h1
      · cases h2
  | [], ds, v :: vs, cs, m, pos, I, G, h1, h2, hm, hl => by cases hl
  | k :: ks, ds, [], cs, m, pos, I, G, h1, h2, hm, hl => by cases hl
theorem pts_ok (I' : ∀ m, m < n + 1 → TrOk T N O m) (G : Gd T N O S X Wx) {ifs : List Expr} {cifs : CEs} (e3 : trEs T N n S ifs = some cifs) (le : ifs.length ≤ 1) : PTs X ifs (tTs O X.K X.mg Wx cifs) := by
  cases n with
  | zero => cases e3
  | succ n =>
    cases ifs with
    | nil =>
      cases e3
      exact ⟨fun pins s σ H Q I q => pts_nil.run pins s σ H Q I (cs_yes q)⟩
    | cons a r =>
      cases r with
      | cons b r => exact absurd le (by simp)
      | nil =>
        unfold trEs at e3
        split at e3
        · rename_i c1 c2 e5 e6
          cases e3
          have e7 : c2 = .nil := by
            cases n with
            | zero => cases e6
            | succ n => cases e6; rfl
          subst e7
          exact ⟨fun pins s2 σ H2 Q I2 q => (pts_one ((I' n (by omega)).t G e5)).run pins s2 σ H2 Q I2 (cs_test1 q)⟩
        · cases e3
theorem tr_comp (I' : ∀ m, m < n + 1 → TrOk T N O m) (G : Gd T N O S X Wx) {elt tg iter : Expr} {ifs : List Expr} {scope : Scope} {p : Pos} {c : GS.CE} (h : trE T N (n + 1) S (.ListComp elt [⟨tg, iter, ifs, 0⟩] scope p) = some c) :
    ∃ ctg cit cifs celt, c = .comp ((ownOf N scope).map (·.2)) ctg cit cifs celt ∧ BlkOk X.N X.env.scope scope (ownOf N scope) ∧ L2.PI X tg iter (tI O X.K X.mg Wx cit) ∧
      (∀ (s : Shared) (H : Hp) (C : Addr) (cl : List (Str × Addr)) (fp : List Addr), L2.PG (X.blk s H scope (compEnvC scope cl C X.env) fp) tg (tG X.K X.mg ctg)) ∧
      (∀ (s : Shared) (H : Hp) (C : Addr) (cl : List (Str × Addr)) (fp : List Addr), PTs (X.blk s H scope (compEnvC scope cl C X.env) fp) ifs (tTs O X.K X.mg noWx cifs)) ∧
      (∀ (s : Shared) (H : Hp) (C : Addr) (cl : List (Str × Addr)) (fp : List Addr), L2.PE (X.blk s H scope (compEnvC scope cl C X.env) fp) elt (tE O X.K X.mg noWx celt)) ∧ ∀ x, foldedSetIterable iter X.env x = pure x := by
  have I := I' n (Nat.lt_succ_self n)
  have h : (if L2.blkC N S.sc scope (ownOf N scope) && decide (ifs.length ≤ 1) then
        match trTgt N ⟨L2.relS scope S.sc, fun x => scope.names.lookup x == some .cell⟩ tg, trI T N n S iter, trEs T N n ⟨L2.relS scope S.sc, fun x => scope.names.lookup x == some .cell⟩ ifs, trE T N n ⟨L2.relS scope S.sc, fun x => scope.names.lookup x == some .cell⟩ elt with
        | some ct, some it, some ifs, some elt => if ciOk tg it then some (GS.CE.comp ((ownOf N scope).map (·.2)) ct it ifs elt) else none
        | _, _, _, _ => none
      else none) = some c := h
  split at h
  · rename_i hc
    simp only [Bool.and_eq_true, decide_eq_true_eq] at hc
    split at h
    · rename_i ctg cit cifs celt e1 e2 e3 e4
      split at h
      case isFalse => cases h
      rename_i ci
      cases h
      have bk := blkOk_by hc.1
      have GB := fun s H C cl fp => G.blk scope bk.kind s H C cl fp
      refine ⟨ctg, cit, cifs, celt, rfl, by rw [G.eN, G.sc]; exact bk, (I.i G e2).1 tg ci, fun s H C cl fp => pg_ok (GB s H C cl fp) e1, fun s H C cl fp => pts_ok I' (GB s H C cl fp) e3 hc.2, fun s H C cl fp => I.e (GB s H C cl fp) e4, (I.i G e2).2⟩
    · cases h
  · cases h
/-! ### comprehensions of other kinds -/
structure GenOk (O : Ora) (X : Cx) (Wx : L2.WX) (e : Expr) (c : GS.CE) : Prop where
  ex : ∃ (scope : Scope) (pos' pos2 : Pos) (newAcc : Sem Value) (o : HO) (own : List (Str × Nat)) (wi : TI) (g : TG) (tt : TT) (ta : Addr → TAc), BlkOk X.N X.env.scope scope own ∧ CompParts X e scope newAcc o own wi g tt ta ∧
    eval e X.env = comprehension e scope X.env pos' newAcc (firstAsync (clausesOf e)) (firstIter (clausesOf e) X.env) ∧
    (∀ use, evalThenUse e X.env use = (comprehension e scope X.env pos2 newAcc (firstAsync (clausesOf e)) (firstIter (clausesOf e) X.env) (some use) >>= fun _ => pure ())) ∧ ∀ σ H Q, tE O X.K X.mg Wx c σ H Q → tGen o wi g tt ta (own.map (·.2)) σ H Q
theorem tr_dcomp (I' : ∀ m, m < n + 1 → TrOk T N O m) (G : Gd T N O S X Wx) {kx vx tg iter : Expr} {ifs : List Expr} {scope : Scope} {p : Pos} {c : GS.CE} (h : trE T N (n + 1) S (.DictComp kx vx [⟨tg, iter, ifs, 0⟩] scope p) = some c) : GenOk O X Wx (.DictComp kx vx [⟨tg, iter, ifs, 0⟩] scope p) c := by
  have I := I' n (Nat.lt_succ_self n)
  have h : (if L2.blkC N S.sc scope (ownOf N scope) && decide (ifs.length ≤ 1) then
        match trTgt N ⟨L2.relS scope S.sc, fun x => scope.names.lookup x == some .cell⟩ tg, trI T N n S iter, trEs T N n ⟨L2.relS scope S.sc, fun x => scope.names.lookup x == some .cell⟩ ifs, trE T N n ⟨L2.relS scope S.sc, fun x => scope.names.lookup x == some .cell⟩ kx, trE T N n ⟨L2.relS scope S.sc, fun x => scope.names.lookup x == some .cell⟩ vx with
        | some ct, some it, some ifs, some kx, some vx => if ciOk tg it then some (GS.CE.gen ((ownOf N scope).map (·.2)) ct it ifs (.dic kx vx)) else none
        | _, _, _, _, _ => none
      else none) = some c := h
  split at h
  · rename_i hc
    simp only [Bool.and_eq_true, decide_eq_true_eq] at hc
    split at h
    · rename_i ctg cit cifs ck cv e1 e2 e3 e4 e5
      split at h
      case isFalse => cases h
      rename_i ci
      cases h
      have bk := blkOk_by hc.1
      have GB := fun s H C cl fp => G.blk scope bk.kind s H C cl fp
      refine ⟨scope, _, _, newDict, .dK [], ownOf N scope, tI O X.K X.mg Wx cit, tG X.K X.mg ctg, tTs O X.K X.mg noWx cifs, taOf O X.K X.mg (.dic ck cv), by rw [G.eN, G.sc]; exact bk, ⟨tg, iter, ifs, [], emitD kx vx, iter.pos, _, rfl, new_dic, den_D1, (I.i G e2).1 tg ci, (I.i G e2).2, fun s H C cl fp => ?_, rfl, rfl⟩, rfl, fun _ => rfl, fun σ H Q q => cs_gen (a := .dic ck cv) trivial q⟩
      exact ⟨pg_ok (GB s H C cl fp) e1, pts_ok I' (GB s H C cl fp) e3 hc.2, fun D => pac_emitD rfl (I.e (GB s H C cl fp) e4) (I.e (GB s H C cl fp) e5)⟩
    · cases h
  · cases h
theorem sub_of {ct : CT} {ow : List Nat} (h : ct.slots.all ow.contains = true) : ∀ i ∈ ct.slots, i ∈ ow := fun i hi => by
  have := List.all_eq_true.mp h i hi
  simpa using this
theorem tr_lcomp2 (I' : ∀ m, m < n + 1 → TrOk T N O m) (G : Gd T N O S X Wx) {elt tg iter tg1 iter1 : Expr} {ifs ifs1 : List Expr} {scope : Scope} {p : Pos} {c : GS.CE} (h : trE T N (n + 1) S (.ListComp elt [⟨tg, iter, ifs, 0⟩, ⟨tg1, iter1, ifs1, 0⟩] scope p) = some c) : GenOk O X Wx (.ListComp elt [⟨tg, iter, ifs, 0⟩, ⟨tg1, iter1, ifs1, 0⟩] scope p) c := by
  have I := I' n (Nat.lt_succ_self n)
  have h : (if L2.blkC N S.sc scope (ownOf N scope) && decide (ifs.length ≤ 1) && decide (ifs1.length ≤ 1) then
        match trTgt N ⟨L2.relS scope S.sc, fun x => scope.names.lookup x == some .cell⟩ tg, trI T N n S iter, trEs T N n ⟨L2.relS scope S.sc, fun x => scope.names.lookup x == some .cell⟩ ifs, trTgt N ⟨L2.relS scope S.sc, fun x => scope.names.lookup x == some .cell⟩ tg1, trI T N n ⟨L2.relS scope S.sc, fun x => scope.names.lookup x == some .cell⟩ iter1, trEs T N n ⟨L2.relS scope S.sc, fun x => scope.names.lookup x == some .cell⟩ ifs1, trE T N n ⟨L2.relS scope S.sc, fun x => scope.names.lookup x == some .cell⟩ elt with
        | some ct, some it, some ifs, some ct1, some it1, some ifs1, some elt =>
          if ciOk tg it && ciOk tg1 it1 && ct1.slots.all ((ownOf N scope).map (·.2)).contains then some (GS.CE.gen ((ownOf N scope).map (·.2)) ct it ifs (.into ct1.slots ct1 it1 ifs1 (.lst elt))) else none
        | _, _, _, _, _, _, _ => none
      else none) = some c := h
  split at h
  · rename_i hc
    simp only [Bool.and_eq_true, decide_eq_true_eq] at hc
    split at h
    · rename_i ctg cit cifs ct1 ci1 cf1 celt e1 e2 e3 e4 e5 e6 e7
      split at h
      case isFalse => cases h
      rename_i ci
      simp only [Bool.and_eq_true] at ci
      cases h
      have bk := blkOk_by hc.1.1
      have GB := fun s H C cl fp => G.blk scope bk.kind s H C cl fp
      refine ⟨scope, _, _, newList [], .lst [], ownOf N scope, tI O X.K X.mg Wx cit, tG X.K X.mg ctg, tTs O X.K X.mg noWx cifs, taOf O X.K X.mg (.into ct1.slots ct1 ci1 cf1 (.lst celt)), by rw [G.eN, G.sc]; exact bk, ⟨tg, iter, ifs, _, intoS (.ListComp elt [⟨tg, iter, ifs, 0⟩, ⟨tg1, iter1, ifs1, 0⟩] scope p) iter1, iter.pos, _, rfl, new_lst, den_L20, (I.i G e2).1 tg ci.1.1, (I.i G e2).2, fun s H C cl fp => ?_, rfl, rfl⟩, rfl, fun _ => rfl, fun σ H Q q => cs_gen (a := .into ct1.slots ct1 ci1 cf1 (.lst celt)) ⟨sub_of ci.2, trivial⟩ q⟩
      have B := GB s H C cl fp
      exact ⟨pg_ok B e1, pts_ok I' B e3 hc.1.2, fun D => pac_into G.calm rfl den_L21 ((I.i B e5).1 tg1 ci.1.2) (I.i B e5).2 (pg_ok B e4) (pts_ok I' B e6 hc.2) (pac_emitL rfl (I.e B e7)) (sub_of ci.2)⟩
    · cases h
  · cases h
theorem tr_dcomp2 (I' : ∀ m, m < n + 1 → TrOk T N O m) (G : Gd T N O S X Wx) {kx vx tg iter tg1 iter1 : Expr} {ifs ifs1 : List Expr} {scope : Scope} {p : Pos} {c : GS.CE} (h : trE T N (n + 1) S (.DictComp kx vx [⟨tg, iter, ifs, 0⟩, ⟨tg1, iter1, ifs1, 0⟩] scope p) = some c) : GenOk O X Wx (.DictComp kx vx [⟨tg, iter, ifs, 0⟩, ⟨tg1, iter1, ifs1, 0⟩] scope p) c := by
  have I := I' n (Nat.lt_succ_self n)
  have h : (if L2.blkC N S.sc scope (ownOf N scope) && decide (ifs.length ≤ 1) && decide (ifs1.length ≤ 1) then
        match trTgt N ⟨L2.relS scope S.sc, fun x => scope.names.lookup x == some .cell⟩ tg, trI T N n S iter, trEs T N n ⟨L2.relS scope S.sc, fun x => scope.names.lookup x == some .cell⟩ ifs, trTgt N ⟨L2.relS scope S.sc, fun x => scope.names.lookup x == some .cell⟩ tg1, trI T N n ⟨L2.relS scope S.sc, fun x => scope.names.lookup x == some .cell⟩ iter1, trEs T N n ⟨L2.relS scope S.sc, fun x => scope.names.lookup x == some .cell⟩ ifs1, trE T N n ⟨L2.relS scope S.sc, fun x => scope.names.lookup x == some .cell⟩ kx, trE T N n ⟨L2.relS scope S.sc, fun x => scope.names.lookup x == some .cell⟩ vx with
        | some ct, some it, some ifs, some ct1, some it1, some ifs1, some kx, some vx =>
          if ciOk tg it && ciOk tg1 it1 && ct1.slots.all ((ownOf N scope).map (·.2)).contains then some (GS.CE.gen ((ownOf N scope).map (·.2)) ct it ifs (.into ct1.slots ct1 it1 ifs1 (.dic kx vx))) else none
        | _, _, _, _, _, _, _, _ => none
      else none) = some c := h
  split at h
  · rename_i hc
    simp only [Bool.and_eq_true, decide_eq_true_eq] at hc
    split at h
    · rename_i ctg cit cifs ct1 ci1 cf1 ck cv e1 e2 e3 e4 e5 e6 e7 e8
      split at h
      case isFalse => cases h
      rename_i ci
      simp only [Bool.and_eq_true] at ci
      cases h
      have bk := blkOk_by hc.1.1
      have GB := fun s H C cl fp => G.blk scope bk.kind s H C cl fp
      refine ⟨scope, _, _, newDict, .dK [], ownOf N scope, tI O X.K X.mg Wx cit, tG X.K X.mg ctg, tTs O X.K X.mg noWx cifs, taOf O X.K X.mg (.into ct1.slots ct1 ci1 cf1 (.dic ck cv)), by rw [G.eN, G.sc]; exact bk, ⟨tg, iter, ifs, _, intoS (.DictComp kx vx [⟨tg, iter, ifs, 0⟩, ⟨tg1, iter1, ifs1, 0⟩] scope p) iter1, iter.pos, _, rfl, new_dic, den_D20, (I.i G e2).1 tg ci.1.1, (I.i G e2).2, fun s H C cl fp => ?_, rfl, rfl⟩, rfl, fun _ => rfl, fun σ H Q q => cs_gen (a := .into ct1.slots ct1 ci1 cf1 (.dic ck cv)) ⟨sub_of ci.2, trivial⟩ q⟩
      have B := GB s H C cl fp
      exact ⟨pg_ok B e1, pts_ok I' B e3 hc.1.2, fun D => pac_into G.calm rfl den_D21 ((I.i B e5).1 tg1 ci.1.2) (I.i B e5).2 (pg_ok B e4) (pts_ok I' B e6 hc.2) (pac_emitD rfl (I.e B e7) (I.e B e8)) (sub_of ci.2)⟩
    · cases h
  · cases h
theorem GenOk.pe {e : Expr} {c : GS.CE} (G : Gd T N O S X Wx) (h : GenOk O X Wx e c) : L2.PE X e (tE O X.K X.mg Wx c) := by
  obtain ⟨scope, pos', _, newAcc, o, own, wi, g, tt, ta, bk, parts, ev, _, imp⟩ := h.ex
  exact PE.imp (pe_gen G.calm (by rw [G.eN]; exact G.nd) bk parts ev) imp
theorem tr_call (I : ∀ m, m < n + 1 → TrOk T N O m) (G : Gd T N O S X Wx) {x : Str} {args : List Expr} {kws : List Keyword} {p pos : Pos} {c : GS.CE} (h : trE T N (n + 1) S (.Call (.Name x p) args kws pos) = some c) : L2.PE X (.Call (.Name x p) args kws pos) (tE O X.K X.mg Wx c) := by
  have J := I n (Nat.lt_succ_self n)
  replace h : (if glB S.sc x && plainN x then
        match T.sig.lookup x with
        | some g => match kwNames kws, trEs T N n S args, trKws T N n S kws with
          | some ks, some es, some fs => if T.pats.contains (x, args.length, ks) && (!args.isEmpty || kws.isEmpty) then (permOf g args.length ks).bind fun ps => if ps.all dfOk then some (GS.CE.call x (appE es fs) ps) else none else none
          | _, _, _ => none
        | none => if T.free.contains x && kws.isEmpty then
            if x == Str.ofString "isinstance" then
              match isiArgs args with
              | some (a, t) => match nameIn t tyNames, trE T N n S a with
                | some ty, some a => if T.free.contains t && glB S.sc t && plainN t then some (.isi a ty) else none
                | _, _ => none
              | none => none
            else if x == Str.ofString "list" && (zipArgs args).isSome then
              match zipArgs args with
              | some (z, a, b) => match trE T N n S a, trE T N n S b with
                | some a, some b => if z == Str.ofString "zip" && T.free.contains z && glB S.sc z && plainN z then some (.lzip a b) else none
                | _, _ => none
              | none => none
            else match nameIn x biNames, trEs T N n S args with
              | some f, some es => if args.isEmpty then none else some (.bi f es)
              | _, _ => none
          else none
      else none) = some c := h
  split at h
  · rename_i hx
    rw [Bool.and_eq_true] at hx
    have hg := gl_of G hx.1
    have pn := plain_of hx.2
    split at h
    · rename_i g eg
      split at h
      · rename_i ks es fs e1 e2 e3
        split at h
        · rename_i hc
          rw [Bool.and_eq_true] at hc
          obtain ⟨ps, e4, h⟩ := some_bind h
          split at h
          · rename_i hd
            cases h
            have da := G.call x g args.length ks ps eg hc.1 e4
            cases args with
            | nil =>
              cases kws with
              | cons _ _ => exact absurd hc.2 (by simp)
              | nil =>
                cases e1
                have : es = .nil := by
                  cases n with
                  | zero => cases e2
                  | succ n => cases e2; rfl
                subst this
                have : fs = .nil := by
                  cases n with
                  | zero => cases e3
                  | succ n => cases e3; rfl
                subst this
                exact pe_callG0 G hg pn da hd
            | cons a r => exact pe_callG G hg pn da hd (tr_len e2) ((trK_len e3).trans (kw_len e1).symm) (J.es G e2) (J.ks G e3) (trEs_noStar e2) e1
          · cases h
        · cases h
      · cases h
    · split at h
      · rename_i hc
        rw [Bool.and_eq_true] at hc
        have hm := G.free x hc.1
        cases kws with
        | cons _ _ => exact absurd hc.2 (by simp)
        | nil =>
          split at h
          · rename_i hi
            split at h
            · rename_i a t q
              obtain ⟨py, rfl⟩ : ∃ py, args = [a, .Name t py] := by
                unfold isiArgs at q
                split at q
                · cases q; exact ⟨_, rfl⟩
                · cases q
              split at h
              · rename_i ty ca e1 e2
                split at h
                · rename_i ht
                  simp only [Bool.and_eq_true] at ht
                  cases h
                  exact pe_isiG G (eq_of_beq hi) e1 hg pn hm (gl_of G ht.1.2) (plain_of ht.2) (G.free t ht.1.1) (J.e G e2) (tr_noStar e2)
                · cases h
              · cases h
            · cases h
          split at h
          · rename_i hi
            rw [Bool.and_eq_true] at hi
            obtain rfl : x = Str.ofString "list" := eq_of_beq hi.1
            split at h
            · rename_i z a b q
              obtain ⟨pz, p2, rfl⟩ : ∃ pz p2, args = [.Call (.Name z pz) [a, b] [] p2] := by
                unfold zipArgs at q
                split at q
                · cases q; exact ⟨_, _, rfl⟩
                · cases q
              split at h
              · rename_i ca cb e1 e2
                split at h
                · rename_i hz
                  simp only [Bool.and_eq_true] at hz
                  obtain rfl : z = Str.ofString "zip" := eq_of_beq hz.1.1.1
                  cases h
                  have sa := tr_noStar e1 [b] X.env
                  have sb := tr_noStar e2 [] X.env
                  have hs : ∀ e ∈ [a, b], noStar e := fun e he => by
                    rcases List.mem_cons.mp he with rfl | he
                    · exact tr_noStar e1
                    · rw [List.mem_singleton.mp he]; exact tr_noStar e2
                  exact PE.imp (pe_listzip (p2 := pz) (pos2 := p2) G.calm (gl_of G hz.1.2) (G.free _ hz.1.1.2) hg hm (pa_cons (J.e G e1) (pa_cons (J.e G e2) pa_nil sb) sa) sa (stars_plain hs X.env p2).1 rfl) fun σ H Q q => cs_lzip q
                · cases h
              · cases h
            · cases h
          · split at h
            · rename_i f es e1 e2
              split at h
              · cases h
              · rename_i ha
                cases h
                cases args with
                | nil => exact absurd rfl ha
                | cons a r => exact pe_biG G e1 hg pn hm (J.es G e2) (trEs_noStar e2)
            · cases h
      · cases h
  · cases h
theorem tr_meth (I : ∀ m, m < n + 1 → TrOk T N O m) (G : Gd T N O S X Wx) {o : Expr} {m : Str} {args : List Expr} {apos pos : Pos} {c : GS.CE} (h : trE T N (n + 1) S (.Call (.Attribute o m apos) args [] pos) = some c) : L2.PE X (.Call (.Attribute o m apos) args [] pos) (tE O X.K X.mg Wx c) := by
  have J := I n (Nat.lt_succ_self n)
  replace h : (if apos.endLine == pos.line then
        if m == Str.ofString "extend" then match (nameOf o).bind (slotOf N S), (oneOf args).bind (trE T N n S) with
          | some i, some e => some (GS.CE.ext i e)
          | _, _ => none
        else if m == Str.ofString "update" then match (nameOf o).bind (slotOf N S), (oneOf args).bind (trE T N n S) with
          | some i, some e => some (.upd i e)
          | _, _ => none
        else match nameIn m mutNames with
        | some m => match (nameOf o).bind (slotOf N S), trEs T N n S args with
            | some i, some es => if decide (args.length < 30) then some (GS.CE.mut m i es) else none
            | _, _ => none
        | none => match nameIn m methNames, trE T N n S o, trEs T N n S args with
          | some m, some a, some es => if noCall0 o && !args.isEmpty && decide (args.length < 30) then some (.meth m a es) else none
          | _, _, _ => none
      else none) = some c := h
  split at h
  · rename_i hl
    split at h
    · rename_i isE
      obtain rfl : m = Str.ofString "extend" := eq_of_beq isE
      split at h
      · rename_i i ce e2 e3
        cases h
        obtain ⟨y, en, e2⟩ := some_bind e2
        obtain ⟨a, ea, e3⟩ := some_bind e3
        obtain ⟨py, rfl⟩ : ∃ py, o = .Name y py := by
          unfold nameOf at en
          split at en
          · cases en; exact ⟨_, rfl⟩
          · cases en
        obtain rfl : args = [a] := by
          unfold oneOf at ea
          split at ea
          · cases ea; rfl
          · cases ea
        have sa := tr_noStar e3 [] X.env
        exact PE.imp (pe_bm F.plainAttrs_list F.slot_list_extend F.type_list_extend mt_extend (pe_slot G e2) (pa_cons (J.e G e3) pa_nil sa) rfl (by rw [sa]; rfl) hl sa rfl) fun σ H Q q => cs_ext q
      · cases h
    split at h
    · rename_i isE
      obtain rfl : m = Str.ofString "update" := eq_of_beq isE
      split at h
      · rename_i i ce e2 e3
        cases h
        obtain ⟨y, en, e2⟩ := some_bind e2
        obtain ⟨a, ea, e3⟩ := some_bind e3
        obtain ⟨py, rfl⟩ : ∃ py, o = .Name y py := by
          unfold nameOf at en
          split at en
          · cases en; exact ⟨_, rfl⟩
          · cases en
        obtain rfl : args = [a] := by
          unfold oneOf at ea
          split at ea
          · cases ea; rfl
          · cases ea
        have sa := tr_noStar e3 [] X.env
        exact PE.imp (pe_bm F.plainAttrs_dict F.slot_dict_update F.type_dict_update mt_update (pe_slot G e2) (pa_cons (J.e G e3) pa_nil sa) rfl (by rw [sa]; rfl) hl sa rfl) fun σ H Q q => cs_upd q
      · cases h
    split at h
    · rename_i f e1
      obtain ⟨hf, rfl⟩ := nameIn_ok e1
      have MF := mu_facts f hf
      split at h
      · rename_i i es e2 e3
        obtain ⟨y, en, e2⟩ := some_bind e2
        obtain ⟨py, rfl⟩ : ∃ py, o = .Name y py := by
          unfold nameOf at en
          split at en
          · cases en; exact ⟨_, rfl⟩
          · cases en
        · split at h
          · rename_i hc
            simp only [decide_eq_true_eq] at hc
            cases h
            have ho : L2.PE X (.Name y py) (tVar i) := pe_slot G e2
            cases args with
            | nil =>
              have : es = .nil := by
                cases n with
                | zero => cases e3
                | succ n => cases e3; rfl
              subst this
              refine PE.imp (pe_bm0 F.plainAttrs_list MF.slot MF.ty (mu_any f) ho rfl hl) fun σ H Q q => ?_
              obtain ⟨v, h1, h2, W0, s0, R, h3⟩ := cs_mut q
              exact ⟨v, h1, h2, h3 [] H ⟨.refl, R, .nil⟩⟩
            | cons a r =>
              have hs := trEs_noStar e3
              obtain ⟨p1, p2⟩ := stars_plain hs X.env pos
              refine PE.imp (pe_bm F.plainAttrs_list MF.slot MF.ty (mu_any f) ho (J.es G e3) rfl ?_ hl (hs _ List.mem_cons_self r X.env) (stars_plain (fun b hb => hs b (List.mem_cons_of_mem _ hb)) X.env pos).1) fun σ H Q q => cs_mut q
              rw [p2]
              simpa [backToKw, keywordEach] using hc
          · cases h
      · cases h
    · split at h
      · rename_i f a es e1 e2 e3
        split at h
        · rename_i hc
          simp only [Bool.and_eq_true, decide_eq_true_eq] at hc
          cases h
          obtain ⟨hf, rfl⟩ := nameIn_ok e1
          have MF := mt_facts f hf
          cases args with
          | nil => exact absurd hc.1.2 (by decide)
          | cons a r =>
            have hs := trEs_noStar e3
            obtain ⟨p1, p2⟩ := stars_plain hs X.env pos
            refine PE.imp (pe_bm MF.pa MF.slot MF.ty (mt_any (by have := G.un; omega) f) (J.e G e2) (J.es G e3) (base_plain hc.1.1) ?_ hl (hs _ List.mem_cons_self r X.env) (stars_plain (fun b hb => hs b (List.mem_cons_of_mem _ hb)) X.env pos).1) fun σ H Q q => cs_meth q
            rw [p2]
            simpa [backToKw, keywordEach] using hc.2
        · cases h
      · cases h
  · cases h
end
end GS

/-! GS18: every translated expression does what its core says. -/
namespace GS
open PySem PySem.Spec PyProof.Rows L2

section
variable {T : Tabs} {N : List Str} {O : Ora} {S : Scp} {X : Cx} {Wx : L2.WX} {n : Nat}
theorem one_ok {args : List Expr} {a : Expr} (h : oneOf args = some a) : args = [a] := by
  unfold oneOf at h
  split at h
  · cases h; rfl
  · cases h
theorem two_ok {args : List Expr} {a b : Expr} (h : twoOf args = some (a, b)) : args = [a, b] := by
  unfold twoOf at h
  split at h
  · cases h; rfl
  · cases h
theorem zipKw_ok {kws : List Keyword} {st : Bool} (h : zipKw kws = some st) : ∃ kp cp, kws = kwStrict st kp cp := by
  unfold zipKw at h
  split at h
  · cases h
    exact ⟨⟨0, 0, 0, 0⟩, ⟨0, 0, 0, 0⟩, rfl⟩
  · rename_i x cp kp
    split at h
    · rename_i e
      cases h
      have e : x = Str.ofString "strict" := eq_of_beq e
      subst e
      exact ⟨kp, cp, rfl⟩
    · cases h
  · cases h
theorem hu100 (G : Gd T N O S X Wx) : X.A.units + 100 < cLine := by have := G.un; omega
theorem tr_e (I : ∀ m, m < n + 1 → TrOk T N O m) (G : Gd T N O S X Wx) {e : Expr} {c : GS.CE} (h : trE T N (n + 1) S e = some c) : L2.PE X e (tE O X.K X.mg Wx c) := by
  have J := I n (Nat.lt_succ_self n)
  have u100 := hu100 G
  cases e with
  | Constant k j p => exact tr_con G h
  | Name x p => exact tr_name G h
  | BinOp a op b p =>
    replace h : (match trE T N n S a, trE T N n S b with
      | some ca, some cb => some (if isMul op && isNewL a then GS.CE.rep ca cb else .bin op ca cb)
      | _, _ => none) = some c := h
    split at h
    · rename_i ca cb e1 e2
      cases h
      split
      · rename_i hm
        have isM : op = .Mult := by cases op <;> first | rfl | cases (Bool.and_eq_true_iff.mp hm).1
        subst isM
        exact PE.imp (pe_op op_rep (J.e G e1) (J.e G e2)) fun σ H Q q => cs_rep q
      · exact PE.imp (pe_op (op_bin op) (J.e G e1) (J.e G e2)) fun σ H Q q => cs_bin q
    · cases h
  | UnaryOp op a p =>
    cases op with
    | USub =>
      replace h : (trE T N n S a).map GS.CE.neg = some c := h
      obtain ⟨ca, e1, rfl⟩ := some_map h
      exact PE.imp (pe_negG (J.e G e1)) fun σ H Q q => cs_neg q
    | Not =>
      replace h : (trE T N n S a).map GS.CE.not = some c := h
      obtain ⟨ca, e1, rfl⟩ := some_map h
      exact PE.imp (pe_notT (J.e G e1)) fun σ H Q q => cs_not q
    | _ => cases h
  | BoolOp op es p =>
    cases es with
    | nil => cases op <;> cases h
    | cons a r =>
      cases r with
      | nil =>
        replace h : trE T N n S a = some c := by cases op <;> exact h
        exact pe_one (J.e G h)
      | cons b r =>
        cases op with
        | And =>
          replace h : (match trE T N n S a, trE T N n S (.BoolOp .And (b :: r) p) with
            | some a, some b => some (GS.CE.and a b)
            | _, _ => none) = some c := h
          split at h
          · rename_i ca cb e1 e2
            cases h
            exact PE.imp (pe_andT (J.e G e1) (J.e G e2)) fun σ H Q q => cs_and q
          · cases h
        | Or =>
          replace h : (match trE T N n S a, trE T N n S (.BoolOp .Or (b :: r) p) with
            | some a, some b => some (GS.CE.or a b)
            | _, _ => none) = some c := h
          split at h
          · rename_i ca cb e1 e2
            cases h
            exact PE.imp (pe_orT (J.e G e1) (J.e G e2)) fun σ H Q q => cs_or q
          · cases h
  | Compare a ops cs p =>
    rcases ops with _ | ⟨o, _ | ⟨o2, _ | ⟨o3, ops⟩⟩⟩ <;> rcases cs with _ | ⟨b, _ | ⟨d, _ | ⟨d3, cs⟩⟩⟩
    case cons.nil.cons.nil =>
      replace h : (match trE T N n S a, trE T N n S b with
        | some a, some b => some (GS.CE.cmp o a b)
        | _, _ => none) = some c := h
      split at h
      · rename_i ca cb e1 e2
        cases h
        exact PE.imp (pe_cmpR (op_cmp o u100) (J.e G e1) (J.e G e2) (tr_noSet e2 o)) fun σ H Q q => cs_cmp q
      · cases h
    case cons.cons.nil.cons.cons.nil =>
      replace h : (match trE T N n S a, trE T N n S b, trE T N n S d with
        | some a, some b, some d => some (GS.CE.chain o o2 a b d)
        | _, _, _ => none) = some c := h
      split at h
      · rename_i ca cb cd e1 e2 e3
        cases h
        exact PE.imp (pe_chain (op_cmp o u100) (op_cmp o2 u100) (J.e G e1) (J.e G e2) (J.e G e3) (show behindInMarks o2 d = false from tr_noSet e3 o2)) fun σ H Q q => cs_chain q
      · cases h
    all_goals cases h
  | IfExp t a b p =>
    replace h : (match trE T N n S t, trE T N n S a, trE T N n S b with
      | some t, some a, some b => some (GS.CE.ite t a b)
      | _, _, _ => none) = some c := h
    split at h
    · rename_i ct ca cb e1 e2 e3
      cases h
      exact PE.imp (pe_ifExp (J.t G e1) (J.e G e2) (J.e G e3)) fun σ H Q q => cs_ite q
    · cases h
  | Tuple es k p =>
    replace h : (trEs T N n S es).map GS.CE.tup = some c := h
    obtain ⟨ca, e1, rfl⟩ := some_map h
    exact PE.imp (pe_tup (J.es G e1)) fun σ H Q q => cs_tup q
  | List es p =>
    replace h : (trEs T N n S es).map GS.CE.lst = some c := h
    obtain ⟨ca, e1, rfl⟩ := some_map h
    exact PE.imp (pe_lst (J.es G e1)) fun σ H Q q => cs_lst q
  | Dict ks vs p =>
    replace h : (match trKs ks, trEs T N n S vs with
      | some es, some fs => if ks.length == vs.length && decide (ks.length ≤ 15) then some (GS.CE.dic es fs) else none
      | _, _ => none) = some c := h
    split at h
    · rename_i es fs e1 e2
      split at h
      · rename_i hc
        simp only [Bool.and_eq_true, decide_eq_true_eq] at hc
        have hl : ks.length = vs.length := eq_of_beq hc.1
        cases h
        obtain ⟨h1, h2, h3⟩ := trK_dic (pos := p) I G e1 e2 (Nat.lt_succ_self n) hl
        cases ks with
        | nil =>
          cases vs with
          | cons _ _ => cases hl
          | nil =>
            cases e1
            have : fs = .nil := by
              cases n with
              | zero => cases e2
              | succ n => cases e2; rfl
            subst this
            exact PE.imp pe_dnewK fun σ H Q q => cs_dnew q
        | cons k ks => exact PE.imp (pe_disp h1 h2 hl (by simp) hc.2) fun σ H Q q => cs_dic (by rw [tr_len e2, h3, hl]) q
      · cases h
    · cases h
  | Subscript a b p =>
    by_cases hb : ∃ l u q, b = .Slice l u none q
    · obtain ⟨l, u, q, rfl⟩ := hb
      replace h : (match trE T N n S a, trO T N n S l, trO T N n S u with
        | some a, some l, some u => some (GS.CE.slc a l u)
        | _, _, _ => none) = some c := h
      split at h
      · rename_i ca cl cu e1 e2 e3
        cases h
        exact PE.imp (pe_slice sl_any (J.e G e1) (J.o G e2) (J.o G e3)) fun σ H Q q => cs_slc q
      · cases h
    · have h2 : (match trE T N n S a, trE T N n S b with
        | some a, some b => some (GS.CE.idx a b)
        | _, _ => none) = some c := by
        cases b with
        | Slice l u st q =>
          cases st with
          | none => exact absurd ⟨l, u, q, rfl⟩ hb
          | some _ => exact h
        | _ => exact h
      split at h2
      · rename_i ca cb e1 e2
        cases h2
        exact PE.imp (pe_ix (ix_any (by omega)) (J.e G e1) (J.e G e2) (tr_ix e2)) fun σ H Q q => cs_idx q
      · cases h2
  | ListComp elt gs scope p =>
    cases gs with
    | nil => cases h
    | cons g gs =>
      obtain ⟨tg, iter, ifs, k⟩ := g
      rcases k with (_ | k) | k <;> rcases gs with _ | ⟨g, gs⟩
      case ofNat.zero.nil =>
        obtain ⟨ctg, cit, cifs, celt, rfl, bk, hi, hg, ht, he, hs⟩ := tr_comp I G h
        exact PE.imp (pe_lc G.calm (by rw [G.eN]; exact G.nd) hi bk hg ht he hs) fun σ H Q q => cs_comp q
      case ofNat.zero.cons =>
        obtain ⟨tg1, iter1, ifs1, k1⟩ := g
        rcases k1 with (_ | k1) | k1 <;> rcases gs with _ | ⟨g, gs⟩
        case ofNat.zero.nil => exact (tr_lcomp2 I G h).pe G
        all_goals cases h
      all_goals cases h
  | DictComp kx vx gs scope p =>
    cases gs with
    | nil => cases h
    | cons g gs =>
      obtain ⟨tg, iter, ifs, k⟩ := g
      rcases k with (_ | k) | k <;> rcases gs with _ | ⟨g, gs⟩
      case ofNat.zero.nil => exact (tr_dcomp I G h).pe G
      case ofNat.zero.cons =>
        obtain ⟨tg1, iter1, ifs1, k1⟩ := g
        rcases k1 with (_ | k1) | k1 <;> rcases gs with _ | ⟨g, gs⟩
        case ofNat.zero.nil => exact (tr_dcomp2 I G h).pe G
        all_goals cases h
      all_goals cases h
  | Call f args kws p =>
    cases f with
    | Name x px => exact tr_call I G h
    | Attribute o m apos =>
      cases kws with
      | nil => exact tr_meth I G h
      | cons _ _ => cases h
    | _ => cases h
  | _ => cases h
theorem tr_w (I : ∀ m, m < n + 1 → TrOk T N O m) (G : Gd T N O S X Wx) {op : BoolOp} {es : List Expr} {p : Pos} {c : GS.CE} (h : trE T N (n + 1) S (.BoolOp op es p) = some c) : L2.PW X (.BoolOp op es p) (tT O X.K X.mg Wx c) := by
  have J := I n (Nat.lt_succ_self n)
  cases es with
  | nil => cases op <;> cases h
  | cons a r =>
    cases r with
    | nil =>
      replace h : trE T N n S a = some c := by cases op <;> exact h
      cases op with
      | And => exact pw_and1 (J.t G h)
      | Or => exact pw_or1 (J.t G h)
    | cons b r =>
      cases op with
      | And =>
        replace h : (match trE T N n S a, trE T N n S (.BoolOp .And (b :: r) p) with
          | some a, some b => some (GS.CE.and a b)
          | _, _ => none) = some c := h
        split at h
        · rename_i ca cb e1 e2
          cases h
          exact PW.imp (pw_and (J.t G e1) (J.w G e2)) fun σ H Q q => ct_and q
        · cases h
      | Or =>
        replace h : (match trE T N n S a, trE T N n S (.BoolOp .Or (b :: r) p) with
          | some a, some b => some (GS.CE.or a b)
          | _, _ => none) = some c := h
        split at h
        · rename_i ca cb e1 e2
          cases h
          exact PW.imp (pw_or (J.t G e1) (J.w G e2)) fun σ H Q q => ct_or q
        · cases h
theorem tr_t (I : ∀ m, m < n + 1 → TrOk T N O m) (G : Gd T N O S X Wx) {e : Expr} {c : GS.CE} (h : trE T N (n + 1) S e = some c) : L2.PT X e (tT O X.K X.mg Wx c) := by
  have J := I n (Nat.lt_succ_self n)
  have u100 := hu100 G
  have pl : (∀ whole, isTrue e X.env whole = (do let v ← whole; standAt e.pos; holding [v] (truthy v))) → L2.PT X e (tT O X.K X.mg Wx c) := fun he =>
    PT.imp (pt_truth (tr_e I G h) he) fun σ H Q q => tT_tE q
  cases e with
  | BoolOp op es p => exact (tr_w I G h).pt
  | UnaryOp op a p =>
    cases op with
    | Not =>
      replace h : (trE T N n S a).map GS.CE.not = some c := h
      obtain ⟨ca, e1, rfl⟩ := some_map h
      exact PT.imp (pt_not (J.t G e1)) fun σ H Q q => ct_not q
    | USub => exact pl fun _ => rfl
    | _ => cases h
  | IfExp t a b p =>
    replace h : (match trE T N n S t, trE T N n S a, trE T N n S b with
      | some t, some a, some b => some (GS.CE.ite t a b)
      | _, _, _ => none) = some c := h
    split at h
    · rename_i ct ca cb e1 e2 e3
      cases h
      exact PT.imp (pt_iteG (J.t G e1) (J.t G e2) (J.t G e3)) fun σ H Q q => ct_ite q
    · cases h
  | Compare a ops cs p =>
    rcases ops with _ | ⟨o, _ | ⟨o2, _ | ⟨o3, ops⟩⟩⟩ <;> rcases cs with _ | ⟨b, _ | ⟨d, _ | ⟨d3, cs⟩⟩⟩
    case cons.nil.cons.nil =>
      replace h : (match trE T N n S a, trE T N n S b with
        | some a, some b => some (GS.CE.cmp o a b)
        | _, _ => none) = some c := h
      split at h
      · rename_i ca cb e1 e2
        cases h
        exact PT.imp (pt_cmpR (op_cmp o u100) (J.e G e1) (J.e G e2) (tr_noSet e2 o)) fun σ H Q q => ct_cmp q
      · cases h
    case cons.cons.nil.cons.cons.nil =>
      replace h : (match trE T N n S a, trE T N n S b, trE T N n S d with
        | some a, some b, some d => some (GS.CE.chain o o2 a b d)
        | _, _, _ => none) = some c := h
      split at h
      · rename_i ca cb cd e1 e2 e3
        cases h
        exact PT.imp (pt_chain (op_cmp o u100) (op_cmp o2 u100) (J.e G e1) (J.e G e2) (J.e G e3) (show behindInMarks o2 d = false from tr_noSet e3 o2)) fun σ H Q q => ct_chain q
      · cases h
    all_goals cases h
  | Constant k j p => exact pl fun _ => rfl
  | Name x p => exact pl fun _ => rfl
  | BinOp a op b p => exact pl fun _ => rfl
  | Tuple es k p => exact pl fun _ => rfl
  | List es p => exact pl fun _ => rfl
  | Dict ks vs p => exact pl fun _ => rfl
  | Subscript a b p => exact pl fun _ => rfl
  | ListComp elt gs scope p => exact pl fun _ => rfl
  | DictComp kx vx gs scope p => exact pl fun _ => rfl
  | Call f args kws p => exact pl fun _ => rfl
  | _ => cases h
theorem trOk : ∀ n, ∀ m, m < n → TrOk T N O m := by
  intro n
  induction n with
  | zero => intro m h; exact absurd h (Nat.not_lt_zero m)
  | succ n ih =>
    intro m hm
    by_cases hlt : m < n
    · exact ih m hlt
    · have : m = n := by omega
      subst this
      cases m with
      | zero => exact ⟨fun _ h => (by cases h), fun _ h => (by cases h), fun _ h => (by cases h), fun _ h => (by cases h), fun _ h => (by cases h), fun _ h => (by cases h), fun _ h => (by cases h)⟩
      | succ n =>
        have J := ih n (Nat.lt_succ_self n)
        refine ⟨fun G h => tr_e ih G h, fun G h => tr_t ih G h, fun G h => tr_w ih G h, fun {S X Wx es c} G h => ?_, fun {S X Wx es c} G h => ?_, fun {S X Wx e c} G h => ?_, fun {S X Wx e c} G h => ?_⟩
        · cases es with
          | nil => cases h; exact PA.imp pa_nil fun σ H Q q => cs_nil q
          | cons a r =>
            replace h : (match trE T N n S a, trEs T N n S r with
              | some e, some r => some (CEs.cons e r)
              | _, _ => none) = some c := h
            split at h
            · rename_i ca cr e1 e2
              cases h
              exact PA.imp (pa_cons (J.e G e1) (J.es G e2) (tr_noStar e1 r X.env)) fun σ H Q q => cs_cons q
            · cases h
        · cases es with
          | nil => cases h; exact ⟨fun pos pins s σ H Q I q => pk_nil.run pos pins s σ H Q I (cs_nil q)⟩
          | cons a r =>
            obtain ⟨x, a, p⟩ := a
            replace h : (match trE T N n S a, trKws T N n S r with
              | some e, some r => some (CEs.cons e r)
              | _, _ => none) = some c := h
            split at h
            · rename_i ca cr e1 e2
              cases h
              exact ⟨fun pos pins s σ H Q I q => (pk_cons (J.e G e1) (J.ks G e2)).run pos pins s σ H Q I (cs_cons q)⟩
            · cases h
        · cases e with
          | none => cases h; exact PO.imp po_none fun σ H Q q => cs_noPart q
          | some e =>
            replace h : (trE T N n S e).map (fun e => CEs.cons e .nil) = some c := h
            obtain ⟨ca, e1, rfl⟩ := some_map h
            exact PO.imp (po_some (J.e G e1)) fun σ H Q q => cs_part q
        · have pl : (trE T N n S e).map CI.v = some c → (∀ tg, ciOk tg c = true → L2.PI X tg e (tI O X.K X.mg Wx c)) ∧ ∀ x, foldedSetIterable e X.env x = pure x := fun h => by
            obtain ⟨ca, e1, rfl⟩ := some_map h
            exact ⟨fun tg _ => pi_any G.calm (J.e G e1), tr_noFold e1 X.env⟩
          cases e with
          | Call f args kws p =>
            cases f with
            | Name x px =>
              replace h : (if x == Str.ofString "range" && kws.isEmpty then
                  if glB S.sc x && T.free.contains x then
                    match oneOf args with
                    | some a => (trE T N n S a).map CI.rng1
                    | none => match twoOf args with
                      | some (a, b) => match trE T N n S a, trE T N n S b with
                        | some a, some b => some (CI.rng2 a b)
                        | _, _ => none
                      | none => none
                  else none
                else if x == Str.ofString "zip" then
                  if glB S.sc x && T.free.contains x then
                    match twoOf args, zipKw kws with
                    | some (a, b), some st => match trE T N n S a, trE T N n S b with
                      | some a, some b => some (CI.zip st a b)
                      | _, _ => none
                    | _, _ => none
                  else none
                else (trE T N n S (.Call (.Name x px) args kws p)).map CI.v) = some c := h
              split at h
              · rename_i hx
                rw [Bool.and_eq_true] at hx
                have hx' : x = "range" := eq_of_beq hx.1
                cases kws with
                | cons _ _ => exact absurd hx.2 (by simp)
                | nil =>
                  split at h
                  · rename_i hc
                    rw [Bool.and_eq_true] at hc
                    have hg := gl_of G hc.1
                    have hm := G.free x hc.2
                    subst hx'
                    split at h
                    · rename_i a ea
                      have ea := one_ok ea
                      subst ea
                      obtain ⟨ca, e1, rfl⟩ := some_map h
                      exact ⟨fun tg _ => PI.imp (pi_range1 hg hm (pa_cons (J.e G e1) pa_nil (tr_noStar e1 [] X.env)) (tr_noStar e1 [] X.env)) fun σ H Q q => cs_rng1 q, fun _ => rfl⟩
                    · split at h
                      · rename_i a b ea
                        have ea := two_ok ea
                        subst ea
                        split at h
                        · rename_i ca cb e1 e2
                          cases h
                          have sb := tr_noStar e2 [] X.env
                          exact ⟨fun tg _ => PI.imp (pi_range2 hg hm (pa_cons (J.e G e1) (pa_cons (J.e G e2) pa_nil sb) (tr_noStar e1 [b] X.env)) (by rw [tr_noStar e1 [b] X.env, sb]; rfl) sb) fun σ H Q q => cs_rng2 q, fun _ => rfl⟩
                        · cases h
                      · cases h
                  · cases h
              · split at h
                · rename_i hx
                  have hx' : x = "zip" := eq_of_beq hx
                  split at h
                  · rename_i hc
                    rw [Bool.and_eq_true] at hc
                    have hg := gl_of G hc.1
                    have hm := G.free x hc.2
                    subst hx'
                    split at h
                    · rename_i a b st ea ek
                      have ea := two_ok ea
                      subst ea
                      obtain ⟨kp, cp, rfl⟩ := zipKw_ok ek
                      split at h
                      · rename_i ca cb e1 e2
                        cases h
                        have sa := tr_noStar e1 [b] X.env
                        have sb := tr_noStar e2 [] X.env
                        have hs : ∀ e ∈ [a, b], noStar e := fun e he => by
                          rcases List.mem_cons.mp he with rfl | he
                          · exact tr_noStar e1
                          · rw [List.mem_singleton.mp he]; exact tr_noStar e2
                        refine ⟨fun tg ci => ?_, fun _ => rfl⟩
                        cases tg with
                        | Tuple ts kt tp => exact PI.imp (pi_zipK hg hm (pa_cons (J.e G e1) (pa_cons (J.e G e2) pa_nil sb) sa) sa (stars_plain hs X.env p).1) fun σ H Q q => cs_zip q
                        | _ => cases ci
                      · cases h
                    · cases h
                  · cases h
                · exact pl h
            | _ => exact pl h
          | _ => exact pl h
end
end GS

/-! GS19: every translated statement does what its core says. -/
namespace GS
open PySem PySem.Spec PyProof.Rows L2

section
variable {T : Tabs} {N : List Str} {O : Ora} {S : Scp} {X : Cx} {Wx : L2.WX} {n : Nat}
theorem PS.imp {st : Stmt} {t t' : TS} (h : L2.PS X st t) (i : ∀ D σ H, t' D σ H → t D σ H) : L2.PS X st t' := ⟨fun pins s σ H D I q => h.run pins s σ H D I (i D σ H q)⟩
theorem PSs.imp {st : List Stmt} {t t' : TS} (h : L2.PSs X st t) (i : ∀ D σ H, t' D σ H → t D σ H) : L2.PSs X st t' := ⟨fun pins s σ H D I q => h.run pins s σ H D I (i D σ H q)⟩
theorem sw_none {e : Expr} (h : isComp e = false) (l : Nat) (env : Env) : swapsWith e none l env = pure false := by
  cases e <;> first | rfl | cases h
theorem sw_other {e : Expr} (h : isComp e = false) (t : Expr) (l : Nat) (env : Env) : swapsWith e (some t) l env = pure false := by
  cases e <;> first | rfl | cases h
theorem sw_tuple {e : Expr} {ts : List Expr} {k : Nat} {p : Pos} (l : Nat) (env : Env) : swapsWith e (some (.Tuple ts k p)) l env = pure false := by
  cases e <;> rfl
theorem sw_sub {e a b : Expr} {p : Pos} (l : Nat) (env : Env) : swapsWith e (some (.Subscript a b p)) l env = pure false := by
  cases e <;> rfl
theorem stores_none {e : Expr} {ts : List Expr} {k : Nat} {p : Pos} (env : Env) (h : ∀ vs k p, e ≠ .Tuple vs k p) : swappedStores [.Tuple ts k p] e env = pure none := by
  cases e <;> first | rfl | exact absurd rfl (h _ _ _)
theorem stores_folded {ts vs : List Expr} {k k2 : Nat} {p p2 : Pos} (env : Env) (h : vs.all (foldedForSure 8) = true) : swappedStores [.Tuple ts k p] (.Tuple vs k2 p2) env = pure none := by
  unfold swappedStores
  simp only [h]
  split
  · rfl
  · split
    · rfl
    · split
      · rfl
      · rfl
def isStar : Expr → Bool
  | .Starred .. => true
  | _ => false
theorem tr_isStar {e : Expr} {c : GS.CE} (h : trE T N n S e = some c) : isStar e = false := by
  cases n with
  | zero => cases h
  | succ n => cases e <;> first | rfl | cases h
theorem beq_of {a b : Option NameKind} (h : (a == b) = true) : a = b := by simpa using h
theorem stores_par (G : Gd T N O S X Wx) {x y : Str} {px py : Pos} {kt k2 : Nat} {pt pt2 : Pos} {a b : Expr} (hx : X.env.scope.names.lookup x = some .local) (hy : X.env.scope.names.lookup y = some .local) (hxy : x ≠ y) (hl : (py.line == px.line) = true) (ha : isStar a = false) (hb : isStar b = false)
    (h1 : ([a, b] : List Expr).all (foldedForSure 8) = false) (h2 : ([a, b] : List Expr).all (constantsAlone 8) = false) :
    swappedStores [.Tuple [.Name x px, .Name y py] kt pt] (.Tuple [a, b] k2 pt2) X.env = pure (some [x, y]) := by
  have hbk : X.env.blockKind = .function := by unfold Env.blockKind; rw [G.kind]; rfl
  have kx : X.env.kindOf x = some .local := hx
  have ky : X.env.kindOf y = some .local := hy
  have hs : (([a, b] : List Expr).any fun | .Starred .. => true | _ => false) = false := by
    show (isStar a || (isStar b || false)) = false
    rw [ha, hb]; rfl
  have hyx : (y == x) = false := beq_eq_false_iff_ne.mpr (Ne.symm hxy)
  have hxy' : (x == y) = false := beq_eq_false_iff_ne.mpr hxy
  unfold swappedStores
  simp only [hbk, h1, h2, kx, ky, hl, Expr.pos, List.filterMap_cons, List.filterMap_nil, List.length_cons, List.length_nil, List.head?, Option.map, Option.getD, beq_self_eq_true, Bool.and_self, if_true, bne_self_eq_false, Bool.or_false, Bool.false_or]
  rw [if_neg (by decide), if_neg (fun z => by
    have z' : (isStar a || (isStar b || false)) = true := z
    rw [ha, hb] at z'
    cases z')]
  have he : ([x, y] : List Str).eraseDups = [x, y] := by
    rw [List.eraseDups_cons]
    simp [hyx, List.eraseDups_cons]
  rw [if_neg (by rw [he]; simp)]
  rfl
theorem stores_cell {x y : Str} {px py : Pos} {kt k2 : Nat} {pt pt2 : Pos} {a b : Expr} {env : Env} (h : env.scope.names.lookup x = some .local → env.scope.names.lookup y = some .local → (py.line == px.line) = true → False) :
    swappedStores [.Tuple [.Name x px, .Name y py] kt pt] (.Tuple [a, b] k2 pt2) env = pure none := by
  have few : ((List.filterMap (fun e => match e with
    | .Name id pos => if env.kindOf id == some .local && pos.line == px.line then some id else none
    | _ => none) [Expr.Name x px, .Name y py]).length != 2) = true := by
    have kx : env.kindOf x = env.scope.names.lookup x := rfl
    have ky : env.kindOf y = env.scope.names.lookup y := rfl
    simp only [List.filterMap_cons, List.filterMap_nil, beq_self_eq_true, Bool.and_true]
    by_cases h1 : (env.kindOf x == some .local) = true
    · by_cases h2 : (env.kindOf y == some .local && py.line == px.line) = true
      · rw [Bool.and_eq_true] at h2
        exact (h (by rw [← kx]; exact beq_of h1) (by rw [← ky]; exact beq_of h2.1) h2.2).elim
      · rw [if_pos h1, if_neg h2]
        rfl
    · rw [if_neg h1]
      by_cases h2 : (env.kindOf y == some .local && py.line == px.line) = true
      · rw [if_pos h2]
        rfl
      · rw [if_neg h2]
        rfl
  unfold swappedStores
  dsimp only
  split
  · rfl
  · split
    · rfl
    · rw [if_pos (by
        have e : ((([Expr.Name x px, .Name y py] : List Expr).head?.map (·.pos.line)).getD 0) = px.line := rfl
        rw [e]
        rw [Bool.or_eq_true]
        exact .inl few)]
structure TrS (T : Tabs) (N : List Str) (O : Ora) (n : Nat) : Prop where
  s : ∀ {S : Scp} {X : Cx} {Wx : L2.WX} {st : Stmt} {c : CS}, Gd T N O S X Wx → PassesOwn (model X.prog X.w) X.A X.env X.xe → trS T N n S st = some c → L2.PS X st (tS O X.K X.mg Wx c)
  b : ∀ {S : Scp} {X : Cx} {Wx : L2.WX} {st : List Stmt} {c : CSs}, Gd T N O S X Wx → PassesOwn (model X.prog X.w) X.A X.env X.xe → trB T N n S st = some c → L2.PSs X st (tB O X.K X.mg Wx c)
theorem set_gen (G : Gd T N O S X Wx) {x : Str} {px p pos : Pos} {e : Expr} {c : GS.CE} {i : Nat} {scope : Scope} (e1 : tgtOf N S x = some i) (gk : GenOk O X Wx e c)
    (hsw : swapsWith e (some (.Name x px)) p.line X.env = pure (X.env.blockKind == .function && X.env.kindOf x == some .local && px.line == pos.line && !(scope.names.any fun (n, k) => n == x && (k == .local || k == .cell))))
    (pl : swapsWith e (some (.Name x px)) p.line X.env = pure false → L2.PS X (.Assign [.Name x px] e p) (tS O X.K X.mg Wx (.set i c))) : L2.PS X (.Assign [.Name x px] e p) (tS O X.K X.mg Wx (.set i c)) := by
  obtain ⟨h1, h2, h3, h4⟩ := tgt_ok G e1
  have hN : X.N.Nodup := by rw [G.eN]; exact G.nd
  cases hb : (X.env.blockKind == .function && X.env.kindOf x == some .local && px.line == pos.line && !(scope.names.any fun (n, k) => n == x && (k == .local || k == .cell))) with
  | false => rw [hb] at hsw; exact pl hsw
  | true =>
    rw [hb] at hsw
    simp only [Bool.and_eq_true] at hb
    have hloc : X.env.scope.names.lookup x = some .local := beq_of hb.1.1.2
    obtain ⟨sc, _, pos', newAcc, o, own, wi, g, tt, ta, bk, parts, _, ev, imp⟩ := gk.ex
    exact PS.imp (ps_gen G.calm hN h1 hloc hsw bk parts ev) fun D σ H q => imp _ _ _ (cs_set q)
theorem tr_set (G : Gd T N O S X Wx) {x : Str} {px p : Pos} {e : Expr} {c : GS.CE} {i : Nat} (e1 : tgtOf N S x = some i) (e2 : trE T N n S e = some c) : L2.PS X (.Assign [.Name x px] e p) (tS O X.K X.mg Wx (.set i c)) := by
  obtain ⟨h1, h2, h3, h4⟩ := tgt_ok G e1
  have hN : X.N.Nodup := by rw [G.eN]; exact G.nd
  have J : ∀ m, TrOk T N O m := fun m => trOk (m + 1) m (Nat.lt_succ_self m)
  have pl : swapsWith e (some (.Name x px)) p.line X.env = pure false → L2.PS X (.Assign [.Name x px] e p) (tS O X.K X.mg Wx (.set i c)) := fun hs =>
    PS.imp (ps_set hN h1 h2 ((J n).e G e2) hs h3) fun D σ H q => cs_set q
  cases hc : isComp e with
  | false => exact pl (sw_other hc _ _ _)
  | true =>
    cases e with
    | ListComp elt gs scope pos =>
      cases n with
      | zero => cases e2
      | succ n =>
        cases gs with
        | nil => cases e2
        | cons g gs =>
          obtain ⟨tg, iter, ifs, k⟩ := g
          rcases k with (_ | k) | k <;> rcases gs with _ | ⟨g, gs⟩
          case ofNat.zero.nil =>
            have hsw : swapsWith (.ListComp elt [⟨tg, iter, ifs, Int.ofNat 0⟩] scope pos) (some (.Name x px)) p.line X.env = pure (X.env.blockKind == .function && X.env.kindOf x == some .local && px.line == pos.line && !(scope.names.any fun (n, k) => n == x && (k == .local || k == .cell))) := rfl
            cases hb : (X.env.blockKind == .function && X.env.kindOf x == some .local && px.line == pos.line && !(scope.names.any fun (n, k) => n == x && (k == .local || k == .cell))) with
            | false => rw [hb] at hsw; exact pl hsw
            | true =>
              rw [hb] at hsw
              simp only [Bool.and_eq_true] at hb
              have hloc : X.env.scope.names.lookup x = some .local := beq_of hb.1.1.2
              obtain ⟨ctg, cit, cifs, celt, rfl, bk, hi, hg, ht, he, hs⟩ := tr_comp (fun m _ => J m) G e2
              exact PS.imp (ps_setLc G.calm hN h1 hloc hsw hi bk hg ht he hs) fun D σ H q => cs_comp (cs_set q)
          case ofNat.zero.cons =>
            obtain ⟨tg1, iter1, ifs1, k1⟩ := g
            rcases k1 with (_ | k1) | k1 <;> rcases gs with _ | ⟨g, gs⟩
            case ofNat.zero.nil => exact set_gen G e1 (tr_lcomp2 (fun m _ => J m) G e2) rfl pl
            all_goals cases e2
          all_goals cases e2
    | SetComp _ _ _ _ => cases n <;> cases e2
    | DictComp kx vx gs scope pos =>
      cases n with
      | zero => cases e2
      | succ n =>
        cases gs with
        | nil => cases e2
        | cons g gs =>
          obtain ⟨tg, iter, ifs, k⟩ := g
          rcases k with (_ | k) | k <;> rcases gs with _ | ⟨g, gs⟩
          case ofNat.zero.nil => exact set_gen G e1 (tr_dcomp (fun m _ => J m) G e2) rfl pl
          case ofNat.zero.cons =>
            obtain ⟨tg1, iter1, ifs1, k1⟩ := g
            rcases k1 with (_ | k1) | k1 <;> rcases gs with _ | ⟨g, gs⟩
            case ofNat.zero.nil => exact set_gen G e1 (tr_dcomp2 (fun m _ => J m) G e2) rfl pl
            all_goals cases e2
          all_goals cases e2
    | _ => cases hc
theorem tgts_two {es : List Expr} {i j : Nat} (h : trTgts N S es = some [i, j]) : ∃ x px y py, es = [.Name x px, .Name y py] ∧ tgtOf N S x = some i ∧ tgtOf N S y = some j := by
  have one : ∀ {es : List Expr} {i : Nat} {is : List Nat}, trTgts N S es = some (i :: is) → ∃ x px r, es = .Name x px :: r ∧ tgtOf N S x = some i ∧ trTgts N S r = some is := fun {es i is} h => by
    cases es with
    | nil => cases h
    | cons e r =>
      cases e with
      | Name x p =>
        replace h : (match tgtOf N S x, trTgts N S r with
          | some i, some is => some (i :: is)
          | _, _ => none) = some (i :: is) := h
        split at h
        · rename_i a b e1 e2
          cases h
          exact ⟨x, p, r, rfl, e1, e2⟩
        · cases h
      | _ => cases h
  obtain ⟨x, px, r, rfl, h1, h2⟩ := one h
  obtain ⟨y, py, r, rfl, h3, h4⟩ := one h2
  cases r with
  | nil => exact ⟨x, px, y, py, rfl, h1, h3⟩
  | cons e r =>
    exfalso
    cases e with
    | Name z p =>
      replace h4 : (match tgtOf N S z, trTgts N S r with
        | some i, some is => some (i :: is)
        | _, _ => none) = some [] := h4
      split at h4 <;> cases h4
    | _ => cases h4
theorem trEs_two {es : List Expr} {a b : GS.CE} (h : trEs T N n S es = some (.cons a (.cons b .nil))) : ∃ e f m k, es = [e, f] ∧ trE T N m S e = some a ∧ trE T N k S f = some b := by
  have one : ∀ {n : Nat} {es : List Expr} {a : GS.CE} {r : CEs}, trEs T N n S es = some (.cons a r) → ∃ e m q, es = e :: q ∧ trE T N m S e = some a ∧ trEs T N m S q = some r := fun {n es a r} h => by
    cases n with
    | zero => cases h
    | succ n =>
      cases es with
      | nil => cases h
      | cons e q =>
        unfold trEs at h
        split at h
        · rename_i c1 c2 e1 e2
          cases h
          exact ⟨e, n, q, rfl, e1, e2⟩
        · cases h
  obtain ⟨e, m, q, rfl, h1, h2⟩ := one h
  obtain ⟨f, k, q, rfl, h3, h4⟩ := one h2
  cases q with
  | nil => exact ⟨e, f, m, k, rfl, h1, h3⟩
  | cons x q =>
    have := tr_len h4
    cases this
theorem tr_asgT (G : Gd T N O S X Wx) {ts : List Expr} {k : Nat} {pt p : Pos} {e : Expr} {c : GS.CE} {is : List Nat} (e1 : trTgts N S ts = some is) (he : L2.PE X e (tE O X.K X.mg Wx c)) (hw : swappedStores [.Tuple ts k pt] e X.env = pure none) : L2.PS X (.Assign [.Tuple ts k pt] e p) (tS O X.K X.mg Wx (.tset (.tup is) c)) := by
  have hg : L2.PG X (.Tuple ts k pt) (tG X.K X.mg (.tup is)) := pg_ok (N := N) (S := S) G (by show (trTgts N S ts).map CT.tup = _; rw [e1]; rfl)
  exact PS.imp (ps_asg he hg (@sw_tuple e ts k pt p.line X.env) hw rfl) fun D σ H q => cs_tset q
theorem pgs_names (G : Gd T N O S X Wx) : ∀ {es : List Expr} {is : List Nat}, trTgts N S es = some is → L2.PGs X es (gNames is)
  | [], is, h => by
    cases h
    exact pgs_nil
  | e :: es, is, h => by
    cases e with
    | Name x p =>
      have h : (match tgtOf N S x, trTgts N S es with
        | some i, some is => some (i :: is)
        | _, _ => none) = some is := h
      split at h
      · rename_i i js e1 e2
        cases h
        obtain ⟨h1, h2, h3, h4⟩ := tgt_ok G e1
        exact pgs_cons (pg_name (by rw [G.eN]; exact G.nd) h1 h2 h3) (pgs_names G e2)
      · cases h
    | _ => cases h
theorem star_ok (G : Gd T N O S X Wx) : ∀ {es : List Expr} {pre post : List Nat} {m : Nat}, trStar N S es = some (pre, m, post) → L2.PGs X es (gNames (pre ++ m :: post)) ∧ (assignEach es X.env).length = pre.length + 1 + post.length ∧ (assignEach es X.env).findIdx? (·.1) = some pre.length
  | [], _, _, _, h => by cases h
  | e :: es, pre, post, m, h => by
    cases e with
    | Name x p =>
      have h : (match tgtOf N S x, trStar N S es with
        | some i, some (p, m, q) => some (i :: p, m, q)
        | _, _ => none) = some (pre, m, post) := h
      split at h
      · rename_i i a b c e1 e2
        cases h
        obtain ⟨h1, h2, h3, h4⟩ := tgt_ok G e1
        obtain ⟨g1, g2, g3⟩ := star_ok G e2
        refine ⟨pgs_cons (pg_name (by rw [G.eN]; exact G.nd) h1 h2 h3) g1, ?_, ?_⟩
        · show (assignEach es X.env).length + 1 = _
          rw [g2, List.length_cons]
          omega
        · show (((false, assign (.Name x p) X.env) :: assignEach es X.env).findIdx? (·.1)) = _
          rw [List.findIdx?_cons]
          simp only [g3]
          rfl
      · cases h
    | Starred t p =>
      cases t with
      | Name x q =>
        have h : (match tgtOf N S x, trTgts N S es with
          | some i, some is => some (([] : List Nat), i, is)
          | _, _ => none) = some (pre, m, post) := h
        split at h
        · rename_i i js e1 e2
          cases h
          obtain ⟨h1, h2, h3, h4⟩ := tgt_ok G e1
          obtain ⟨g1, g2⟩ := each_ok X.env e2
          refine ⟨pgs_star (pg_name (by rw [G.eN]; exact G.nd) h1 h2 h3) (pgs_names G e2), ?_, rfl⟩
          show (assignEach es X.env).length + 1 = _
          rw [g1]
          simp only [List.length_nil]
          omega
        · cases h
      | _ => cases h
    | _ => cases h
theorem trSOk : ∀ n, TrS T N O n := by
  have J : ∀ m, TrOk T N O m := fun m => trOk (m + 1) m (Nat.lt_succ_self m)
  intro n
  induction n with
  | zero => exact ⟨fun _ _ h => (by cases h), fun _ _ h => (by cases h)⟩
  | succ n ih =>
    refine ⟨fun {S X Wx st c} G hp h => ?_, fun {S X Wx st c} G hp h => ?_⟩
    · have hN : X.N.Nodup := by rw [G.eN]; exact G.nd
      cases st with
      | Return v p =>
        cases v with
        | none => cases h; exact PS.imp ps_retN fun D σ H q => cs_retN q
        | some e =>
          replace h : (trE T N n S e).map CS.ret = some c := h
          obtain ⟨ca, e1, rfl⟩ := some_map h
          exact PS.imp (ps_ret ((J n).e G e1)) fun D σ H q => cs_ret q
      | Raise _ _ _ => cases h; exact PS.imp ps_never fun D σ H q => cs_nev q
      | Pass p => cases h; exact PS.imp ps_pass fun D σ H q => cs_pss q
      | Break p => cases h; exact PS.imp ps_break fun D σ H q => cs_brk q
      | Continue p => cases h; exact PS.imp ps_continue fun D σ H q => cs_ct q
      | Expr e p =>
        replace h : (if isComp e then none else (trE T N n S e).map CS.ex) = some c := h
        split at h
        · cases h
        · rename_i hc
          obtain ⟨ca, e1, rfl⟩ := some_map h
          exact PS.imp (ps_expr ((J n).e G e1) (sw_none (by simpa using hc) _ _)) fun D σ H q => cs_ex q
      | If t a b p =>
        replace h : (match trE T N n S t, trB T N n S a, trB T N n S b with
          | some t, some a, some b => some (CS.ife t a b)
          | _, _, _ => none) = some c := h
        split at h
        · rename_i ct ca cb e1 e2 e3
          cases h
          exact PS.imp (ps_if ((J n).t G e1) (ih.b G hp e2) (ih.b G hp e3)) fun D σ H q => cs_ifs q
        · cases h
      | For tg it b orelse p =>
        cases orelse with
        | cons _ _ => cases h
        | nil =>
          replace h : (match trTgt N S tg, trI T N n S it, trB T N n S b with
            | some ct, some it, some b => if ciOk tg it then some (CS.for_ ct it b) else none
            | _, _, _ => none) = some c := h
          split at h
          · rename_i ct ca cb e1 e2 e3
            split at h
            case isFalse => cases h
            rename_i ci
            cases h
            obtain ⟨hi, hs⟩ := (J n).i G e2
            exact PS.imp (ps_for hp G.calm (hi tg ci) (pg_ok G e1) (ih.b G hp e3) hs) fun D σ H q => cs_for q
          · cases h
      | While t b orelse p =>
        cases orelse with
        | cons _ _ => cases h
        | nil =>
          replace h : (match trE T N n S t, trB T N n S b with
            | some t, some b => some (CS.whl t b)
            | _, _ => none) = some c := h
          split at h
          · rename_i ct cb e1 e3
            cases h
            exact PS.imp (ps_while hp ((J n).t G e1) (ih.b G hp e3)) fun D σ H q => cs_whl G.loop q
          · cases h
      | Assign tgs e p =>
        cases tgs with
        | nil => cases h
        | cons tg r =>
          cases r with
          | cons _ _ =>
            cases tg with
            | Subscript o k p2 => cases o <;> cases h
            | Tuple ts kt pt => first | (cases h; done) | (cases e <;> cases h)
            | _ => cases h
          | nil =>
            cases tg with
            | Name x px =>
              replace h : (match tgtOf N S x, trE T N n S e with
                | some i, some e => some (CS.set i e)
                | _, _ => none) = some c := h
              split at h
              · rename_i i ce e1 e2
                cases h
                exact tr_set G e1 e2
              · cases h
            | Subscript o k p2 =>
              cases o with
              | Name y py =>
                replace h : (match slotOf N S y, trE T N n S k, trE T N n S e with
                  | some i, some k, some e => some (CS.dput i k e)
                  | _, _, _ => none) = some c := h
                split at h
                · rename_i i ck ce e1 e2 e3
                  cases h
                  exact PS.imp (ps_dput (by have := G.un; omega) (pe_slot G e1) ((J n).e G e2) ((J n).e G e3) (sw_sub _ _)) fun D σ H q => cs_dput q
                · cases h
              | _ => cases h
            | Tuple ts kt pt =>
              by_cases ht : ∃ vs k2 p2, e = .Tuple vs k2 p2
              · obtain ⟨vs, k2, p2, rfl⟩ := ht
                replace h : (if ts.length == vs.length && ts.length == 2 && allLocal S.sc ts && sameLine ts && !vs.all (foldedForSure 8) && !vs.all (constantsAlone 8) then
                  match trTgts N S ts, trEs T N n S vs with
                  | some [i, j], some (.cons a (.cons b .nil)) => if i == j then none else some (CS.par i j a b)
                  | _, _ => none
                else match trTgts N S ts, trEs T N n S vs with
                  | some is, some es => if vs.all (foldedForSure 8) then some (.tset (.tup is) (.tup es))
                    else if allLocal S.sc ts && sameLine ts then none else match is, es with
                      | [i, j], .cons a (.cons b .nil) => if i == j then none else some (.par i j a b)
                      | _, _ => none
                  | _, _ => none) = some c := h
                split at h
                · rename_i hc
                  simp only [Bool.and_eq_true, Bool.not_eq_true'] at hc
                  split at h
                  · rename_i i j a b e1 e2
                    split at h
                    · cases h
                    · rename_i hij
                      cases h
                      obtain ⟨x, px, y, py, rfl, h1, h2⟩ := tgts_two e1
                      obtain ⟨ea, eb, m, k, rfl, h3, h4⟩ := trEs_two e2
                      obtain ⟨x1, x2, x3, x4⟩ := tgt_ok G h1
                      obtain ⟨y1, y2, y3, y4⟩ := tgt_ok G h2
                      have hij' : i ≠ j := fun z => hij (by rw [z]; exact beq_self_eq_true j)
                      have hxy : x ≠ y := fun z => by
                        rw [z, h2] at h1
                        cases h1
                        exact hij' rfl
                      have hal : (S.sc.names.lookup x == some .local && (S.sc.names.lookup y == some .local && true)) = true := hc.1.1.1.2
                      simp only [Bool.and_eq_true] at hal
                      have hx : X.env.scope.names.lookup x = some .local := by rw [G.sc]; exact beq_of hal.1
                      have hy : X.env.scope.names.lookup y = some .local := by rw [G.sc]; exact beq_of hal.2.1
                      have hsl : ((py.line == px.line) && true) = true := hc.1.1.2
                      rw [Bool.and_true] at hsl
                      have hw := stores_par (kt := kt) (k2 := k2) (pt := pt) (pt2 := p2) G hx hy hxy hsl (tr_isStar h3) (tr_isStar h4) hc.1.2 hc.2
                      have ha := (J m).e G h3
                      have hb := (J k).e G h4
                      exact PS.imp (ps_par G.calm hN x1 y1 hij' hx hy (pa_cons ha (pa_cons hb pa_nil (tr_noStar h4 [] X.env)) (tr_noStar h3 [eb] X.env)) hw (@sw_tuple (.Tuple [ea, eb] k2 p2) [.Name x px, .Name y py] kt pt p.line X.env)) fun D σ H q => cs_par q
                  · cases h
                · split at h
                  · rename_i is es e1 e2
                    split at h
                    · rename_i hf
                      cases h
                      exact tr_asgT G e1 (PE.imp (pe_tup ((J n).es G e2)) fun σ H Q q => cs_tup q) (stores_folded X.env hf)
                    · split at h
                      · cases h
                      · rename_i hnl
                        split at h
                        · rename_i i j a b
                          split at h
                          · cases h
                          · cases h
                            obtain ⟨x, px, y, py, rfl, h1, h2⟩ := tgts_two e1
                            obtain ⟨ea, eb, m, k, rfl, h3, h4⟩ := trEs_two e2
                            obtain ⟨x1, x2, x3, x4⟩ := tgt_ok G h1
                            obtain ⟨y1, y2, y3, y4⟩ := tgt_ok G h2
                            have hw : swappedStores [.Tuple [.Name x px, .Name y py] kt pt] (.Tuple [ea, eb] k2 p2) X.env = pure none := stores_cell fun lx ly l => hnl (by
                              have lx' : S.sc.names.lookup x = some .local := by rw [← G.sc]; exact lx
                              have ly' : S.sc.names.lookup y = some .local := by rw [← G.sc]; exact ly
                              show ((S.sc.names.lookup x == some .local && (S.sc.names.lookup y == some .local && true)) && ((py.line == px.line) && true)) = true
                              rw [lx', ly', l]
                              rfl)
                            have hg : L2.PG X (.Tuple [.Name x px, .Name y py] kt pt) (gTup X.K 2 (gCons (gName i) (gCons (gName j) gNil))) := pg_tup G.calm (pgs_cons (pg_name hN x1 x2 x3) (pgs_cons (pg_name hN y1 y2 y3) pgs_nil))
                            exact PS.imp (ps_asg (pe_tup (pa_cons ((J m).e G h3) (pa_cons ((J k).e G h4) pa_nil (tr_noStar h4 [] X.env)) (tr_noStar h3 [eb] X.env))) hg (@sw_tuple (.Tuple [ea, eb] k2 p2) [.Name x px, .Name y py] kt pt p.line X.env) hw rfl) fun D σ H q => cs_parC q
                        · cases h
                  · cases h
              · have h2 : (if anyStar ts then match trStar N S ts, trE T N n S e with
                  | some (p, m, q), some e => some (CS.sset p m q e)
                  | _, _ => none
                else match trTgts N S ts, trE T N n S e with
                  | some is, some e => some (CS.tset (.tup is) e)
                  | _, _ => none) = some c := by
                  cases e with
                  | Tuple vs k2 p2 => exact absurd ⟨vs, k2, p2, rfl⟩ ht
                  | _ => exact h
                split at h2
                · split at h2
                  · rename_i pre m post ce e1 e2
                    cases h2
                    obtain ⟨g1, g2, g3⟩ := star_ok G e1
                    have hg : L2.PG X (.Tuple ts kt pt) (gStar X.K (pre.length + 1 + post.length) pre.length (gNames (pre ++ m :: post))) := pg_star G.calm g1 (by omega) g2 g3
                    exact PS.imp (ps_asg ((J n).e G e2) hg (@sw_tuple e ts kt pt p.line X.env) (stores_none X.env fun vs k p z => ht ⟨vs, k, p, z⟩) rfl) fun D σ H q => cs_sset q
                  · cases h2
                split at h2
                · rename_i is ce e1 e2
                  cases h2
                  exact tr_asgT G e1 ((J n).e G e2) (stores_none X.env fun vs k p z => ht ⟨vs, k, p, z⟩)
                · cases h2
            | _ => cases h
      | _ => cases h
    · cases st with
      | nil => cases h; exact PSs.imp pss_nil fun D σ H q => cs_snil q
      | cons a r =>
        replace h : (match trS T N n S a, trB T N n S r with
          | some a, some r => some (CSs.cons a r)
          | _, _ => none) = some c := h
        split at h
        · rename_i ca cr e1 e2
          cases h
          exact PSs.imp (pss_cons (ih.s G hp e1) (ih.b G hp e2)) fun D σ H q => cs_scons q
        · cases h
end
end GS

/-! GS20: a def keeps its promise. -/
namespace GS
open PySem PySem.Spec PyProof.Rows L2

section
variable {K : PySem.W.Frag} {mg : Str → Option Value} {W : Addr → Prop} {H : Hp}
theorem ArgR.len {as : List AV} {vs : List V} (h : ArgR K mg W H as vs) : as.length = vs.length := by
  induction h with
  | nil => rfl
  | d _ _ ih => exact congrArg Nat.succ ih
  | io _ _ _ ih => exact congrArg Nat.succ ih
theorem ArgR.at {as : List AV} {vs : List V} (h : ArgR K mg W H as vs) : ∀ {i : Nat} {a : AV}, as[i]? = some a → ∃ v, vs[i]? = some v ∧ match a with
    | .d x => Rep K mg W H x v
    | .io o => ∃ p, v = .ref p ∧ ObAt K mg W H p o ∧ W p := by
  induction h with
  | nil => intro i a e; simp at e
  | d h _ ih =>
    intro i a e
    cases i with
    | zero => simp at e; subst e; exact ⟨_, rfl, h⟩
    | succ i => obtain ⟨v, h1, h2⟩ := ih (i := i) (by simpa using e); exact ⟨v, by simpa using h1, h2⟩
  | io h w _ ih =>
    intro i a e
    cases i with
    | zero => simp at e; subst e; exact ⟨_, rfl, _, rfl, h, w⟩
    | succ i => obtain ⟨v, h1, h2⟩ := ih (i := i) (by simpa using e); exact ⟨v, by simpa using h1, h2⟩
/-- one argument is lent, or none -/
theorem lent_none {as : List AV} {vs : List V} (h : ArgR K mg W H as vs) (n : ∀ (i : Nat) o, as[i]? ≠ some (.io o)) : lentA as vs = none := by
  induction h with
  | nil => rfl
  | d _ _ ih => exact ih fun i o e => n (i + 1) o (by simpa using e)
  | io _ _ _ _ => exact absurd rfl (n 0 _)
theorem lent_some {as : List AV} {vs : List V} (h : ArgR K mg W H as vs) : ∀ {j : Nat} {o : Ob}, as[j]? = some (.io o) → (∀ (i : Nat) o, as[i]? = some (.io o) → i = j) → ∃ p, vs[j]? = some (.ref p) ∧ lentA as vs = some p ∧ ObAt K mg W H p o ∧ W p := by
  induction h with
  | nil => intro j o e; simp at e
  | d _ _ ih =>
    intro j o e u
    cases j with
    | zero => simp at e
    | succ j =>
      obtain ⟨p, h1, h2⟩ := ih (j := j) (by simpa using e) fun i o e => Nat.succ.inj (u (i + 1) o (by simpa using e))
      exact ⟨p, by simpa using h1, h2⟩
  | io h w _ ih =>
    intro j o e u
    cases j with
    | zero => simp at e; subst e; exact ⟨_, rfl, rfl, h, w⟩
    | succ j => exact absurd (u 0 _ rfl) (by omega)
theorem ioFits_ok {as : List AV} {io : Option Nat} (h : ioFits as io = true) : (∀ (i : Nat) o, as[i]? = some (.io o) → io = some i) ∧ (∀ j, io = some j → ∃ o, as[j]? = some (.io o)) := by
  unfold ioFits at h
  rw [Bool.and_eq_true, List.all_eq_true] at h
  refine ⟨fun i o e => ?_, fun j e => ?_⟩
  · have hl : i < as.length := (List.getElem?_eq_some_iff.mp e).1
    have := h.2 i (List.mem_range.mpr hl)
    rw [e] at this
    simpa using this
  · subst e
    have hl : j < as.length := by simpa using h.1
    have := h.2 j (List.mem_range.mpr hl)
    cases q : as[j]? with
    | none => rw [List.getElem?_eq_none_iff] at q; omega
    | some a =>
      rw [q] at this
      cases a with
      | io o => exact ⟨o, rfl⟩
      | d d => simp at this
theorem startS_at {n : Nat} {as : List AV} {i : Nat} : (startS n as)[i]? = match as[i]? with
    | some a => some (slOf a)
    | none => if i < as.length + (n - as.length) then some .emp else none := by
  unfold startS
  cases e : as[i]? with
  | some a =>
    have hl : i < as.length := (List.getElem?_eq_some_iff.mp e).1
    rw [List.getElem?_append_left (by simpa using hl), List.getElem?_map, e]
    rfl
  | none =>
    have hl : as.length ≤ i := List.getElem?_eq_none_iff.mp e
    rw [List.getElem?_append_right (by simpa using hl), List.getElem?_replicate]
    simp only [List.length_map]
    by_cases h : i < as.length + (n - as.length)
    · rw [if_pos (by omega), if_pos h]
    · rw [if_neg (by omega), if_neg h]
theorem start_at {N : List Str} {vs : List V} {i : Nat} {v : V} (h : vs[i]? = some v) : (L2.start N vs)[i]? = some (some v) := by
  unfold L2.start
  have hl : i < vs.length := (List.getElem?_eq_some_iff.mp h).1
  rw [List.getElem?_append_left (by simpa using hl), List.getElem?_map, h]
  rfl
/-- the words of the callee -/
def inW (W : Addr → Prop) (l : Option Addr) : Addr → Prop := fun a => W a ∧ l ≠ some a
structure Entry (K : PySem.W.Frag) (mg : Str → Option Value) (W : Addr → Prop) (H : Hp) (N : List Str) (n : Nat) (io : Option Nat) (as : List AV) (vs : List V) : Prop where
  rel : Rel K mg (inW W (lentA as vs)) (startS n as) (L2.start N vs) H
  own : ∀ a, OwnP (startS n as) (L2.start N vs) a ↔ lentA as vs = some a
  lw : ∀ p, lentA as vs = some p → W p
  io : match io with
    | none => lentA as vs = none
    | some j => ∃ p, lentA as vs = some p ∧ isIo (startS n as)[j]? = true ∧ (L2.start N vs)[j]? = some (some (.ref p))
theorem entry {N : List Str} {n : Nat} {io : Option Nat} {as : List AV} {vs : List V} (t : ∀ a, W a → H a ≠ none) (h : ArgR K mg W H as vs) (hf : ioFits as io = true) (hn : n = N.length) (hl : as.length ≤ n) : Entry K mg W H N n io as vs := by
  obtain ⟨f1, f2⟩ := ioFits_ok hf
  have ln := h.len
  have at1 : ∀ {i : Nat} {x : Sl}, (startS n as)[i]? = some x → x ≠ .emp → ∃ a, as[i]? = some a ∧ x = slOf a := fun {i x} e ne => by
    rw [startS_at] at e
    cases q : as[i]? with
    | some a => rw [q] at e; cases e; exact ⟨a, rfl, rfl⟩
    | none =>
      rw [q] at e
      simp only at e
      split at e
      · cases e; exact absurd rfl ne
      · cases e
  have own1 : ∀ {i : Nat}, isOwn (startS n as)[i]? = true → ∃ o, as[i]? = some (.io o) := fun {i} e => by
    cases q : (startS n as)[i]? with
    | none => rw [q] at e; cases e
    | some x =>
      rw [q] at e
      obtain ⟨a, h1, h2⟩ := at1 q (fun z => by rw [z] at e; cases e)
      cases a with
      | io o => exact ⟨o, h1⟩
      | d d => rw [h2] at e; cases e
  have uniq : ∀ {j : Nat} {o : Ob}, as[j]? = some (.io o) → ∀ (i : Nat) o', as[i]? = some (.io o') → i = j := fun {j o} e i o' e' => by
    have h1 := f1 j o e
    have h2 := f1 i o' e'
    rw [h1] at h2
    exact (Option.some.inj h2).symm
  have own : ∀ a, OwnP (startS n as) (L2.start N vs) a ↔ lentA as vs = some a := fun a => by
    constructor
    · rintro ⟨i, h1, h2⟩
      obtain ⟨o, ho⟩ := own1 h1
      obtain ⟨p, q1, q2, _⟩ := lent_some h ho (uniq ho)
      rw [start_at q1] at h2
      cases h2
      exact q2
    · intro e
      have ex : ∃ (j : Nat) (o : Ob), as[j]? = some (.io o) := by
        apply Classical.byContradiction
        intro z
        have := lent_none h fun i o e => z ⟨i, o, e⟩
        rw [this] at e
        cases e
      obtain ⟨j, o, hj⟩ := ex
      obtain ⟨p, q1, q2, _⟩ := lent_some h hj (uniq hj)
      rw [e] at q2
      cases q2
      exact ⟨j, by rw [startS_at, hj]; rfl, start_at q1⟩
  have lw : ∀ p, lentA as vs = some p → W p := fun p e => by
    obtain ⟨j, h1, h2⟩ := (own p).mpr e
    obtain ⟨o, ho⟩ := own1 h1
    obtain ⟨p', q1, q2, q3, q4⟩ := lent_some h ho (uniq ho)
    rw [e] at q2
    cases q2
    exact q4
  have wf : ∀ a, Wf (inW W (lentA as vs)) (startS n as) (L2.start N vs) a → W a := fun a z => z.elim And.left fun z => lw a ((own a).mp z)
  have k : Keep W H (Wf (inW W (lentA as vs)) (startS n as) (L2.start N vs)) H := ⟨fun _ _ h _ => h, fun a z => .inl (wf a z)⟩
  refine ⟨⟨?_, fun a z => t a z.1, fun i d e => ?_, fun i o e => ?_, fun i j a h1 h2 _ _ => ?_⟩, own, lw, ?_⟩
  · unfold startS L2.start
    rw [List.length_append, List.length_append, List.length_map, List.length_map, List.length_replicate, List.length_replicate]
    omega
  · obtain ⟨a, h1, h2⟩ := at1 e (fun z => by cases z)
    cases a with
    | io o => cases h2
    | d d' =>
      cases h2
      obtain ⟨v, h3, h4⟩ := h.at h1
      exact ⟨v, start_at h3, h4.mv k⟩
  · obtain ⟨o', ho⟩ := own1 (own_is e)
    obtain ⟨p, q1, q2, q3, q4⟩ := lent_some h ho (uniq ho)
    have : o' = o := by
      unfold ownAt at e
      rw [startS_at, ho] at e
      cases e
      rfl
    subst this
    exact ⟨p, start_at q1, fun z => z.2 q2, q3.mv k fun _ h => h⟩
  · obtain ⟨o1, e1⟩ := own1 h1
    obtain ⟨o2, e2⟩ := own1 h2
    exact uniq e2 i o1 e1
  · cases io with
    | none =>
      exact lent_none h fun i o e => by cases f1 i o e
    | some j =>
      obtain ⟨o, ho⟩ := f2 j rfl
      obtain ⟨p, q1, q2, _⟩ := lent_some h ho (uniq ho)
      exact ⟨p, q2, by rw [startS_at, ho]; rfl, start_at q1⟩
/-- what is so at a def's end -/
theorem exit {N : List Str} {n : Nat} {io : Option Nat} {as : List AV} {vs : List V} {s' : Ev} {σ' : L2.St} {H' : Hp} {v : RV} {w : V} (E : Entry K mg W H N n io as vs) (m : Mv (startS n as) (L2.start N vs) H s' σ' H') (r : RetR K mg (inW W (lentA as vs)) (startS n as) (L2.start N vs) H v s' σ' w H') :
    PostC K mg W H (lentA as vs) v (outOf s' io) w H' := by
  have keep : ∀ a u, H a = some u → lentA as vs ≠ some a → H' a = some u := fun a u h n => m.keep a u h fun z => n ((E.own a).mp z)
  -- the lent object stands
  have lent : ∀ p, lentA as vs = some p → ∃ j, io = some j ∧ isIo s'[j]? = true ∧ σ'[j]? = some (some (.ref p)) := fun p e => by
    have h := E.io
    cases io with
    | none => rw [e] at h; cases h
    | some j =>
      obtain ⟨p', h1, h2, h3⟩ := h
      rw [e] at h1
      cases h1
      obtain ⟨h4, h5⟩ := m.io j h2
      exact ⟨j, rfl, h4, h5.trans h3⟩
  have isO : ∀ {x : Option Sl}, isIo x = true → isOwn x = true := fun {x} h => by
    cases x with
    | none => cases h
    | some x => cases x <;> first | rfl | cases h
  have wIn : ∀ a, W a → Wf (inW W (lentA as vs)) s' σ' a := fun a z => by
    by_cases e : lentA as vs = some a
    · obtain ⟨j, _, h1, h2⟩ := lent a e
      exact .inr ⟨j, isO h1, h2⟩
    · exact .inl ⟨z, e⟩
  have out : ∀ {W1 W2 : Addr → Prop}, Rel K mg W1 s' σ' H' → (∀ a, W2 a → Wf W1 s' σ' a) → OutR K mg (lentA as vs) (outOf s' io) H' W2 := fun {W1 W2} R k => by
    cases e : lentA as vs with
    | none =>
      have h := E.io
      cases io with
      | none => exact True.intro
      | some j =>
        obtain ⟨p, h1, _⟩ := h
        rw [e] at h1
        cases h1
    | some p =>
      obtain ⟨j, rfl, h1, h2⟩ := lent p e
      obtain ⟨o, ho⟩ := is_own (isO h1)
      obtain ⟨a, h3, h4, h5⟩ := R.own j o ho
      rw [h2] at h3
      cases h3
      show OutR K mg (some p) (ownAt s' j) H' W2
      rw [ho]
      exact h5.mv ⟨fun _ _ h _ => h, fun a z => .inl (k a z)⟩ fun _ h => h
  refine ⟨keep, m.trk, ?_⟩
  cases v with
  | d d =>
    obtain ⟨R, r⟩ := r
    exact ⟨W, ⟨rfl, r.mv ⟨fun _ _ h _ => h, fun a z => .inl (wIn a z)⟩⟩, out R wIn⟩
  | sl i => exact r.elim
  | own o =>
    obtain ⟨q, rfl, h1, h2, h3, R, ob⟩ := r
    have nq : H q = none := h1.elim (fun z => by
      obtain ⟨j, _, h4, h5⟩ := lent q ((E.own q).mp z)
      exact absurd ⟨j, isO h4, h5⟩ h3) id
    have w2 : ∀ a, plus W q a → Wf (plus (inW W (lentA as vs)) q) s' σ' a := fun a z => z.elim (fun z => (wIn a z).imp .inl id) fun z => .inl (.inr z)
    exact ⟨plus W q, ⟨q, rfl, nq, rfl, ob.mv ⟨fun _ _ h _ => h, fun a z => .inl (w2 a z)⟩ fun _ h => h⟩, out R w2⟩
end
end GS

/-! GS21: all defs of the module, by the level of the calls. -/
namespace GS
open PySem PySem.Spec PyProof.Rows L2

section
variable {P : Program} {w : World} {K : PySem.W.Frag} {mg : Str → Option Value} {base : Heap}
/-- the wish behind a body, read as the wish behind the call -/
theorem leave_def {X : Cx} {Q : VK} {fl : Flow} {t : Shared} (h : SP X [] { nx := fun _ H' => Q .non H', rt := Q } fl t) :
    (∃ u, (fl = .ret u ∨ (fl = .next ∧ u = Value.none)) ∧ ∃ v H', t.os = X.s_0.os ∧ AllBare t.gens ∧ Un X.fs X.ex X.H_0 H' X.s_0.heap t.heap ∧ HOk X.prog X.w H' t.heap ∧ RelV v u ∧ Q v H') := by
  cases fl
  case ret u =>
    rcases h with ⟨v, _, H', J, rel, q⟩
    exact ⟨u, .inl rfl, v, H', J.os, J.bare, J.base, J.hok, rel, q⟩
  case next =>
    rcases h with ⟨_, H', J, q⟩
    exact ⟨.none, .inr ⟨rfl, rfl⟩, .non, H', J.os, J.bare, J.base, J.hok, rfl, q⟩
  case brk => rcases h with ⟨_, _, _, q⟩; exact q.elim
  case cont => rcases h with ⟨_, _, _, q⟩; exact q.elim
theorem fun_okG {x qual : Str} {params : Arguments} {body : List Stmt} {scope : Scope} {dvs : List V} {kws : List (Str × V)} {f : Addr} {fd : FuncData} {N ps : List Str} {k : Nat} {sp : Sp} (F : FunD K x qual params body scope dvs kws f fd) (S : FnScope N ps scope) (len : ∀ vs H Q E, sp vs H Q E → vs.length = ps.length)
    (hbody : ∀ (cdv : Value) (A : Around) (outer : List Env) (s : Shared) (H : Hp) (vs : List V) (Q : VK) (E : XK), Room k (A.deeper (envOfC qual scope s.heap.objs.size f cdv)) → A.guards = some [] → sp vs H Q E →
      ∃ t, L2.PSs (cxOf (L2.CX P w) P w K mg base N qual scope f cdv A outer s H E) body t ∧ t { nx := fun _ H' => Q .non H', rt := Q } (L2.start N vs) H) : FnG P w K mg base (k + 1) f fd ps sp where
  run := by
    intro A outer t H args us vs Q E room guards here bound rel want
    rcases F.ex with ⟨_, _, _, _, _, _, _, cdv, _, _, rfl, stands, code, _⟩
    have inT : ∀ {a o}, base.get? a = some o → t.heap.get? a = some o := fun q => (here.bs _ _ q).1
    have kT : K.In t.heap := here.mod.kin.keeps fun _ _ => inT
    rcases hbody cdv A outer t H vs Q E (room.deeper _) guards want with ⟨rd, walk, goal⟩
    refine codeAny_call_function room.depth (kT _ _ stands) rfl S.co S.gen rfl (PySem.W.codeRec_of kT code) ?_
    refine bound _ _ _ _ (wpAny_newFunctionEnv_cells S.kind ?kinds fun env made t1 entered => ?enter)
    case kinds =>
      intro y mem
      exact (S.par y.1 (List.of_mem_zip mem).1).imp id fun c => ⟨c, PySem.W.cellsFrom_some _ _ _ (.inl c)⟩
    case enter =>
      cases made
      refine ⟨(here.mod.nolimit.keeps fun _ _ => inT).keeps entered.toInCall.keep, codeAny_func ?_⟩
      have start := inv_start (CX := L2.CX P w) (P := P) (w := w) (cd := cdv) (E := E) S room.hd here (len _ _ _ _ want) rel entered
      refine wpAny_mono (walk.run [] t1 _ H _ start goal) (fun fl t2 over => ?_) (fun _ _ out => out)
      rcases leave_def over with ⟨u, rfl | ⟨rfl, rfl⟩, done⟩
      · exact done
      · exact done
/-- a def of the module, and its core -/
structure Def where
  name : Str
  qual : Str
  params : Arguments
  body : List Stmt
  scope : Scope
  N : List Str
  ps : List Str
  io : Option Nat
  fuel : Nat
  core : CSs
/-- how it stands in the tree -/
structure DefOk (T : Tabs) (p : Prog) (K : PySem.W.Frag) (mg : Str → Option Value) (d : Def) : Prop where
  fs : p.fs d.name = some ⟨d.N.length, d.ps.length, d.io, d.core⟩
  sc : FnScope d.N d.ps d.scope
  tr : trB T d.N d.fuel ⟨d.scope, fun _ => true⟩ d.body = some d.core
  at_ : ∃ dvs kws fa fd, FunD K d.name d.qual d.params d.body d.scope dvs kws fa fd ∧ mg d.name = some (.ref fa)
/-- the module as the proof needs it -/
structure Wld (T : Tabs) (p : Prog) (K : PySem.W.Frag) (mg : Str → Option Value) (ds : List Def) : Prop where
  ok : ∀ d ∈ ds, DefOk T p K mg d
  loop : p.Λ = whileW
  free : ∀ x, T.free.contains x = true → mg x = none
  con : ∀ x, T.con.contains x = true → ∃ v u, mg x = some u ∧ RelV v u ∧ ∀ d, p.G x = some d → ∀ W H, Rep K mg W H d v
  bind : ∀ f g m ks ps, T.sig.lookup f = some g → T.pats.contains (f, m, ks) = true → permOf g m ks = some ps → ∃ d ∈ ds, d.name = f ∧ ∃ (dvs : List V) (kws : List (Str × V)) (fa : Addr) (fd : FuncData) (gg : List Value → List Value → List Value) (gV : List V → List V → List V),
    FunD K d.name d.qual d.params d.body d.scope dvs kws fa fd ∧ mg d.name = some (.ref fa) ∧ KBn K fd d.ps m ks gg gV ∧ ∀ vs zs, vs.length = m → zs.length = ks.length → gV vs zs = permV ps (vs ++ zs) ∧ (gV vs zs).length = d.ps.length
theorem sp_stuck {n : Nat} {vs : List V} {H : Hp} {Q : VK} {E : XK} (h : spF K mg n (fun _ => .stuck) vs H Q E) : False := by
  obtain ⟨_, W, as, _, _, h⟩ := h
  exact h
theorem body_ok {T : Tabs} {p : Prog} {d : Def} {k : Nat} (D : DefOk T p K mg d) {as : List AV} {vs : List V} {W : Addr → Prop} {H : Hp} {Q : VK} {E : XK} (hl : vs.length = d.ps.length) (t : ∀ a, W a → H a ≠ none) (ha : ArgR K mg W H as vs)
    (h : match run p (k + 1) d.name as with
      | .ok v out => ∀ w H', PostC K mg W H (lentA as vs) v out w H' → Q w H'
      | .er x out => ∀ c d H', PostCX K mg W H (lentA as vs) x out c d H' → E c d H'
      | .stuck => False) : tB ⟨run p k, p.Λ, p.G⟩ K mg (fun c d _ H => E c d H) d.core { nx := fun _ H' => Q .non H', rt := Q } (L2.start d.N vs) H := by
  have e : run p (k + 1) d.name as = if decide (as.length = d.ps.length) && decide (d.ps.length ≤ d.N.length) && ioFits as d.io then endF d.io (exB ⟨run p k, p.Λ, p.G⟩ d.core (startS d.N.length as)) else .stuck := by
    show (match p.fs d.name with
      | some fd => if decide (as.length = fd.ps) && decide (fd.ps ≤ fd.n) && ioFits as fd.io then endF fd.io (exB ⟨run p k, p.Λ, p.G⟩ fd.body (startS fd.n as)) else .stuck
      | none => .stuck) = _
    rw [D.fs]
  rw [e] at h
  by_cases hc : (decide (as.length = d.ps.length) && decide (d.ps.length ≤ d.N.length) && ioFits as d.io) = true
  · rw [if_pos hc] at h
    simp only [Bool.and_eq_true, decide_eq_true_eq] at hc
    have en := entry (N := d.N) t ha hc.2 rfl (by omega)
    refine ⟨inW W (lentA as vs), startS d.N.length as, en.rel, ?_⟩
    cases r : exB ⟨run p k, p.Λ, p.G⟩ d.core (startS d.N.length as) with
    | stuck => rw [r] at h; exact h
    | er x s' =>
      rw [r] at h
      intro c dd σ' H' m R xn
      have ex := exit (v := .d .none) (w := .non) en m ⟨R, .non⟩
      refine h c dd H' ⟨ex.keep, ex.trk, xn, ?_⟩
      obtain ⟨W2, ⟨rfl, _⟩, o⟩ := ex.rep
      exact o
    | ok fl s' =>
      rw [r] at h
      cases fl with
      | nx => exact fun σ' H' m R => h .non H' (exit (v := .d .none) (w := .non) en m ⟨R, .non⟩)
      | brk => exact h.elim
      | ct => exact h.elim
      | ret v => exact fun w σ' H' m R => h w H' (exit en m R)
  · rw [if_neg hc] at h
    exact h.elim
theorem levels {T : Tabs} {p : Prog} {ds : List Def} (Wd : Wld T p K mg ds) : ∀ (k : Nat) (d : Def), d ∈ ds → ∀ {dvs : List V} {kws : List (Str × V)} {fa : Addr} {fd : FuncData}, FunD K d.name d.qual d.params d.body d.scope dvs kws fa fd →
    FnG P w K mg base k fa fd d.ps (spF K mg d.ps.length (run p k d.name)) := by
  intro k
  induction k with
  | zero => exact fun d hd dvs kws fa fd F => ⟨fun A outer s H args us vs Q E hr hg e0 hb r hsp => (sp_stuck (show spF K mg d.ps.length (fun _ => .stuck) vs H Q E from hsp)).elim⟩
  | succ k ih =>
    intro d hd dvs kws fa fd F
    have D := Wd.ok d hd
    refine fun_okG F D.sc (fun vs H Q E h => h.1) fun cdv A outer s H vs Q E hr hg hsp => ?_
    obtain ⟨hl, W, as, t, ha, h⟩ := hsp
    refine ⟨tB ⟨run p k, p.Λ, p.G⟩ K mg (fun c d _ H => E c d H) d.core, ?_, body_ok D hl t ha h⟩
    have G : Gd T d.N ⟨run p k, p.Λ, p.G⟩ ⟨d.scope, fun _ => true⟩ (cxOf (L2.CX P w) P w K mg base d.N d.qual d.scope fa cdv A outer s H E) (fun c d _ H => E c d H) := by
      refine ⟨rfl, D.sc.nd, D.sc.kind, rfl, rfl, rfl, hg, ?_, Wd.loop, Wd.free, Wd.con, fun f g m ks ps h1 h2 h3 => ?_, ?_⟩
      · have := hr.un
        show (A.deeper _).units + 200 < cLine
        omega
      · obtain ⟨d', hd', rfl, dvs', kws', fa', fd', gg, gV, F', hm', hb', hV⟩ := Wd.bind f g m ks ps h1 h2 h3
        exact ⟨fa', fd', d'.ps, k, gg, gV, hm', F'.kp, ih d' hd' F', hr, hb', hV⟩
      · exact takes_of (X := cxOf (L2.CX P w) P w K mg base d.N d.qual d.scope fa cdv A outer s H E) rfl rfl rfl rfl
    exact (trSOk d.fuel).b G (passes_of rfl) D.tr
end
end GS

/-! GS22: the law's call, from the evaluator's answer. -/
namespace GS
open PySem PySem.Spec PyProof.Rows L2

section
variable {P : Program} {w : World} {K : PySem.W.Frag} {mg mb : Str → Option Value} {a : Addr} {vs : List Value} {ns : List Int} {t : Shared}
abbrev scrOb (vs : List Value) : Obj := { cls := .type "list", data := .seq vs.toArray }
/-- all that is tracked at the call: the script, locked, unless it is the module's own -/
def scr (K : PySem.W.Frag) (a : Addr) (vs : List Value) (ns : List Int) : Hp := fun b => if b = a ∧ (K.lookup a).isNone = true then some (.frz (scrOb vs) (.lst (ns.map V.int))) else none
theorem scr_is {b : Addr} {u : HO} (h : scr K a vs ns b = some u) : b = a ∧ (K.lookup a).isNone = true ∧ u = .frz (scrOb vs) (.lst (ns.map V.int)) := by
  unfold scr at h
  split at h
  · rename_i c
    exact ⟨c.1, c.2, (Option.some.inj h).symm⟩
  · cases h
theorem scr_off {b : Addr} (h : b ≠ a) : scr K a vs ns b = none := if_neg fun c => h c.1
theorem scr_ok (there : t.heap.get? a = some (scrOb vs)) (nums : IntsAre vs ns) (small : ns.length ≤ sizeLine) : HOk P w (scr K a vs ns) t.heap := fun b u h => by
  obtain ⟨rfl, _, rfl⟩ := scr_is h
  refine ⟨there, ?_, vs, _, vals_ints nums, there⟩
  rwa [List.length_map]
theorem scr_list (kt : K.In t.heap) (there : t.heap.get? a = some (scrOb vs)) (nums : IntsAre vs ns) (small : ns.length ≤ sizeLine) : SqL K (scr K a vs ns) a (ns.map V.int) := by
  by_cases own : (K.lookup a).isNone = true
  · exact .inl (.inr ⟨_, if_pos ⟨rfl, own⟩⟩)
  · obtain ⟨o, here⟩ := Option.ne_none_iff_exists'.mp fun z => own (Option.isNone_iff_eq_none.mpr z)
    obtain rfl : o = scrOb vs := Option.some.inj ((kt a o here).symm.trans there)
    have fit : vs.toArray.size ≤ sizeLine := by rw [List.size_toArray, nums.length]; exact small
    exact .inr ⟨_, vs.toArray, _, here, rfl, rfl, rfl, fit, by rw [List.toList_toArray]; exact vals_ints nums⟩
/-- an object that is not the script stands in the ground -/
theorem ground {b : Addr} {o : Obj} (at' : t.heap.get? b = some o) (free : scr K a vs ns b = none) : (hidT t.heap (scr K a vs ns)).get? b = some o := hidT_get at' free
theorem ground_ns {m : Str → Option Value} {b : Addr} (there : t.heap.get? a = some (scrOb vs)) (h : t.heap.Ns b m) : (hidT t.heap (scr K a vs ns)).Ns b m := by
  obtain ⟨o, es, ep, at', isDict, rest⟩ := h
  have ne : b ≠ a := fun z => by
    rw [z, there] at at'
    rw [← Option.some.inj at'] at isDict
    exact absurd isDict (by intro q; cases q)
  exact ⟨o, es, ep, ground at' (scr_off ne), isDict, rest⟩
theorem ground_k (kt : K.In t.heap) : K.In (hidT t.heap (scr K a vs ns)) := fun b o h => ground (kt b o h) (by
  cases q : scr K a vs ns b with
  | none => rfl
  | some u =>
    obtain ⟨rfl, none', _⟩ := scr_is q
    rw [h] at none'
    cases none')
/-- the state at the law's call -/
theorem call_env (kt : K.In t.heap) (gl : t.heap.Ns mainGlobals mg) (bl : t.heap.Ns builtinsNs mb) (boot : ∀ x : Str, x ≠ "__name__" → mb x = bootBuiltins x) (lim : t.heap.NoLimit) (quiet : t.gens = #[])
    (there : t.heap.get? a = some (scrOb vs)) (nums : IntsAre vs ns) (small : ns.length ≤ sizeLine) : Env0 P w K mg (hidT t.heap (scr K a vs ns)) callerA [] t (scr K a vs ns) where
  frames := rfl
  mod := ⟨ground_k kt, ground_ns there gl, ⟨mb, ground_ns there bl, boot⟩, lim.imp fun _ z => ⟨ground_ns there z.1, z.2⟩⟩
  bs := fun _ _ => of_hidT
  bsz := by rw [hidT_size]; exact Nat.le_refl _
  funs := True.intro
  frf := fun b h => by cases h
  hok := scr_ok there nums small
  bare := .of_eq quiet
theorem call_law {k : Nat} {fa : Addr} {fd : FuncData} {x : Str} {f : List AV → FR} (kt : K.In t.heap) (gl : t.heap.Ns mainGlobals mg) (bl : t.heap.Ns builtinsNs mb) (boot : ∀ x : Str, x ≠ "__name__" → mb x = bootBuiltins x) (lim : t.heap.NoLimit) (quiet : t.gens = #[])
    (there : t.heap.get? a = some (scrOb vs)) (nums : IntsAre vs ns) (small : ns.length ≤ sizeLine) (room : Room k callerA) (F : ∀ base : Heap, FnG P w K mg base k fa fd [x] (spF K mg 1 f))
    (bound : ∀ (s : Shared) (u : Value), BindsTo s fd ⟨[u], []⟩ [(x, u)]) (yes : f [.d (.list (ns.map PyData.int))] = .ok (.d (.bool true)) none) :
    codeAny (model P w) callerA (.call (.ref fa) ⟨[.ref a], []⟩) (fun r s' => r = .ok (.ret (.bool true)) ∧ OldK t.heap s'.heap ∧ s'.os = t.os ∧ AllBare s'.gens) t := by
  have items : ∀ l : List Int, RepA K mg (fun _ => False) (scr K a vs ns) (l.map PyData.int) (l.map V.int) := fun l => by
    induction l with
    | nil => exact .nil
    | cons i r ih => exact .cons (.int i) ih
  have list : Rep K mg (fun _ => False) (scr K a vs ns) (.list (ns.map PyData.int)) (.ref a) := by
    refine .lst ?_ (items ns) (by rw [List.length_map]; exact small)
    rcases scr_list kt there nums small with h | h
    · exact .inl ⟨h, id⟩
    · exact .inr (.inr h)
  have wish : spF K mg 1 f [.ref a] (scr K a vs ns) (fun v _ => v = .bl true) (fun _ _ _ => False) := by
    refine ⟨rfl, fun _ => False, [.d (.list (ns.map PyData.int))], fun _ z => z.elim, .d list .nil, ?_⟩
    rw [yes]
    intro v H' C
    obtain ⟨_, ⟨_, r⟩, _⟩ := C.rep
    cases r
    rfl
  have promise := (F _).run callerA [] t _ ⟨[.ref a], []⟩ [.ref a] [.ref a] _ _ room rfl (call_env kt gl bl boot lim quiet there nums small) (bound t (.ref a)) (.cons rfl .nil) wish
  refine codeAny_mono promise fun r s' out => ?_
  match r, out with
  | .error _, ⟨_, _, _, _, _, _, _, _, _, _, _, _, no⟩ => exact no.elim
  | .ok (.ret u), ⟨v, H', os, bare, un, after, rel, q⟩ =>
    cases (show v = .bl true from q)
    cases (show u = .bool true from rel)
    refine ⟨rfl, .of_keep fun b o at' => ?_, os, bare⟩
    cases q : scr K a vs ns b with
    | none => exact un.keep b o at' q (by simp [frs]) (by simp)
    | some u =>
      obtain ⟨rfl, _, rfl⟩ := scr_is q
      rw [there] at at'
      cases at'
      exact (after b _ (un.frzs b _ _ q)).1
end
/-- the walk of the law -/
theorem walk_law {l : PySem.W.OpenLaw} {n k : Nat} {q : Program} {loose : List Str} {XP : (Str → Option Value) → Heap → Prop} {YP : World → Heap → Prop} {d : DefRec} {x : Str} (hn : l.most = some n) (hn2 : n ≤ sizeLine) (hdf : d.params.defaults = []) (hr : Room k callerA)
    (F : ∀ (w : World) (mg : Str → Option Value) (fa : Addr) (h : Heap), YP w h → h.Ns mainGlobals mg → mg d.name = some (.ref fa) →
      ∃ (K : PySem.W.Frag) (fd : FuncData) (f : List AV → FR), K.In h ∧ (∀ (s : Shared) (u : Value), BindsTo s fd ⟨[u], []⟩ [(x, u)]) ∧
        (∀ ns : List Int, ns.length ≤ n → f [.d (.list (ns.map PyData.int))] = .ok (.d (.bool true)) none) ∧ ∀ base : Heap, FnG l.prog w K mg base k fa fd [x] (spF K mg 1 f)) :
    PySem.W.WalkO q loose XP YP l.row.toRowW d [] (fun f vs => PySem.call f vs) :=
  Att.attach_call hn hdf fun w _ t mg _ fa _ _ _ _ a vs ns G Y _ _ _ isLaw there nums short quiet => by
    obtain ⟨K, fd, f, kt, bound, yes, ok⟩ := F w mg fa _ Y G.T.g isLaw
    exact call_law kt G.T.g G.T.b G.T.builtins G.T.nolimit quiet there nums (Nat.le_trans short hn2) hr ok bound (yes ns short)
end GS

/-! GS23: how calls bind. -/
namespace GS
open PySem PySem.Spec PyProof.Rows L2

theorem gd_rel {vs : List V} {us : List Value} (h : Vals vs us) : ∀ k : Nat, RelV (vs.getD k .non) (us.getD k .none) := by
  induction h with
  | nil => exact fun k => by cases k <;> rfl
  | cons r _ ih =>
    intro k
    cases k with
    | zero => exact r
    | succ k => exact ih k
section
variable {K : PySem.W.Frag} {x qual : Str} {params : Arguments} {body : List Stmt} {scope : Scope} {dvs : List V} {kws : List (Str × V)} {f : Addr} {fd : FuncData} {ps ks : List Str} {n : Nat}
/-- no default is asked -/
theorem kb_plain {g : List Value → List Value → List Value} {gV : List V → List V → List V} (F : FunD K x qual params body scope dvs kws f fd)
    (rel : ∀ {vs : List V} {us : List Value} {zs : List V} {ws : List Value}, Vals vs us → Vals zs ws → Vals (gV vs zs) (g us ws))
    (eq : ∀ (dV kV doc pm : Value) (an : Option Addr) (cdv ct : Value) (us ws : List Value), us.length = n → ws.length = ks.length → (dvs = [] → dV = .none) → bindArgs (PySem.W.fnOf x qual params body scope dV kV doc pm an cdv ct) ⟨us, ks.zip ws⟩ = pure (ps.zip (g us ws))) :
    KBn K fd ps n ks g gV := by
  rcases F.ex with ⟨_, _, dV, kV, doc, pm, an, cdv, ct, _, made, _, _, hD, _⟩
  subst made
  refine ⟨fun s us ws _ l1 l2 => .of_eq (eq dV kV doc pm an cdv ct us ws l1 l2 fun z => ?_), rel⟩
  exact hD.elim And.right fun q => absurd z q.1
/-- keyword-only defaults are asked: those of ms -/
theorem kb_kwd {g : List Value → List Value → List Value → List Value} {gV : List V → List V → List V → List V} (ms : List (Str × V)) (F : FunD K x qual params body scope [] kws f fd) (some' : kws ≠ []) (sub : ∀ q ∈ ms, q ∈ kws)
    (rel : ∀ {vs : List V} {us : List Value} {ds : List V} {mv : List Value} {zs : List V} {ws : List Value}, Vals vs us → Vals ds mv → Vals zs ws → Vals (gV vs ds zs) (g us mv ws))
    (eq : ∀ (D : Addr) (doc pm : Value) (an : Option Addr) (cdv ct : Value) (us mv ws : List Value), us.length = n → mv.length = ms.length → ws.length = ks.length →
      KwChain D ((ms.map (·.1)).zip mv) (bindArgs (PySem.W.fnOf x qual params body scope .none (.ref D) doc pm an cdv ct) ⟨us, ks.zip ws⟩) (ps.zip (g us mv ws))) :
    ∃ mv : List Value, KBn K fd ps n ks (fun us ws => g us mv ws) (fun vs zs => gV vs (ms.map (·.2)) zs) := by
  rcases F.ex with ⟨_, _, dV, kV, doc, pm, an, cdv, ct, _, made, _, _, hD, hK⟩
  subst made
  have noD : dV = .none := hD.elim And.right fun q => absurd rfl q.1
  subst noD
  rcases hK with e | ⟨D, rfl, holds⟩
  · exact absurd e some'
  · obtain ⟨mv, len, rels, looks⟩ := kwd_vals (ms := ms) fun q m => holds q (sub q m)
    exact ⟨mv, fun s us ws kt l1 l2 => L2.BindsTo.of_looks fun M => KwChain.looks kt looks (eq D doc pm an cdv ct us mv ws l1 len l2), fun r1 r2 => rel r1 rels r2⟩
end
end GS

/-! GS24: how the evaluator is reckoned with. -/
namespace GS
open PySem

theorem run_at {p : Prog} {f : Str} {fd : FD} (h : p.fs f = some fd) (k : Nat) (as : List AV) : run p (k + 1) f as = if decide (as.length = fd.ps) && decide (fd.ps ≤ fd.n) && ioFits as fd.io then endF fd.io (exB ⟨run p k, p.Λ, p.G⟩ fd.body (startS fd.n as)) else .stuck := by
  show (match p.fs f with | some fd => _ | none => _) = _
  rw [h]
/-- a def's run, the calls' oracle kept closed (else the compiler unfolds the callees) -/
theorem run_by {p : Prog} {f : Str} {fd : FD} {k : Nat} {as : List AV} {r : FR} (h : p.fs f = some fd)
    (hb : ∀ O : Ora, O.Φ = run p k → O.G = p.G → (if decide (as.length = fd.ps) && decide (fd.ps ≤ fd.n) && ioFits as fd.io then endF fd.io (exB O fd.body (startS fd.n as)) else .stuck) = r) : run p (k + 1) f as = r :=
  (run_at h k as).trans (hb ⟨run p k, p.Λ, p.G⟩ rfl rfl)
theorem run_ex {p : Prog} {f : Str} {fd : FD} {k : Nat} {as : List AV} (R : FR → Prop) (h : p.fs f = some fd)
    (hb : ∀ O : Ora, O.Φ = run p k → O.G = p.G → R (if decide (as.length = fd.ps) && decide (fd.ps ≤ fd.n) && ioFits as fd.io then endF fd.io (exB O fd.body (startS fd.n as)) else .stuck)) : R (run p (k + 1) f as) := by
  rw [run_at h]
  exact hb ⟨run p k, p.Λ, p.G⟩ rfl rfl
section
variable {α β : Type} {s : Ev}
theorem bind_ok (a : α) (s : Ev) (f : α → Ev → Rs β) : (Rs.ok a s).bind f = f a s := rfl
theorem opt_some (a : α) (s : Ev) : Rs.opt (some a) s = .ok a s := rfl
theorem set_back {i : Nat} {x : Sl} (h : s[i]? = some .emp) : (s.set i x).set i .emp = s := by
  rw [List.set_set]
  apply List.ext_getElem?
  intro j
  rw [List.getElem?_set]
  split
  · rename_i e
    subst e
    have hl := (List.getElem?_eq_some_iff.mp h).1
    rw [if_pos hl, h]
  · rfl
/-- a turn that leaves the slots as they were -/
theorem compL_nm {i : Nat} {tests : Ev → Rs Bool} {elt : Ev → Rs D} {t : D → Bool} {g : D → D} (hs : s[i]? = some .emp) : ∀ (xs acc : List D), (∀ x ∈ xs, tests (s.set i (.val x)) = .ok (t x) (s.set i (.val x)) ∧ (t x = true → elt (s.set i (.val x)) = .ok (g x) (s.set i (.val x)))) →
    acc.length + xs.length ≤ sizeLine → compL [i] (.nm i) tests elt xs acc s = .ok (acc ++ (xs.filter t).map g) s
  | [], acc, _, _ => by rw [List.filter_nil, List.map_nil, List.append_nil]; rfl
  | x :: xs, acc, h, hl => by
    obtain ⟨h1, h2⟩ := h x List.mem_cons_self
    have hi := (List.getElem?_eq_some_iff.mp hs).1
    have hl' : acc.length + (xs.length + 1) ≤ sizeLine := hl
    have put : bindT (.nm i) x s = .ok () (s.set i (.val x)) := by
      show putS i (.val x) s = _
      unfold putS
      rw [hs, decide_eq_true hi]
      rfl
    have wip : wipeC [i] (s.set i (.val x)) = .ok () s := by
      unfold wipeC
      rw [List.any_cons, List.any_nil, List.getElem?_set_self hi]
      show Rs.ok () ((s.set i (.val x)).set i .emp) = _
      rw [set_back hs]
    show ((bindT (.nm i) x s).bind _) = _
    rw [put, bind_ok, h1, bind_ok]
    cases ht : t x with
    | false =>
      show (wipeC [i] (s.set i (.val x))).bind _ = _
      rw [wip, bind_ok, compL_nm hs xs acc (fun y hy => h y (List.mem_cons_of_mem _ hy)) (by omega), List.filter_cons, ht]
      rfl
    | true =>
      show (elt (s.set i (.val x))).bind _ = _
      rw [h2 ht, bind_ok, if_pos (by omega), wip, bind_ok, compL_nm hs xs (acc ++ [g x]) (fun y hy => h y (List.mem_cons_of_mem _ hy)) (by rw [List.length_append, List.length_singleton]; omega), List.filter_cons, ht]
      simp
/-- turns that change the slots: an invariant -/
theorem compL_inv {i : Nat} {tests : Ev → Rs Bool} {elt : Ev → Rs D} (N : Nat) (P : List D → Ev → Prop) : ∀ (xs acc : List D) (s : Ev), P acc s → acc.length + xs.length = N → N ≤ sizeLine →
    (∀ x ∈ xs, ∀ acc s, acc.length < N → P acc s → s[i]? = some .emp ∧ ∃ d s2, tests (s.set i (.val x)) = .ok true (s.set i (.val x)) ∧ elt (s.set i (.val x)) = .ok d s2 ∧ isOwn s2[i]? = false ∧ P (acc ++ [d]) (s2.set i .emp)) →
    ∃ acc' s', compL [i] (.nm i) tests elt xs acc s = .ok acc' s' ∧ P acc' s' ∧ acc'.length = N
  | [], acc, s, p, e, _, _ => ⟨acc, s, rfl, p, by simpa using e⟩
  | x :: xs, acc, s, p, hN, hl, h => by
    have hN' : acc.length + (xs.length + 1) = N := hN
    obtain ⟨hs, d, s2, h1, h2, h3, h4⟩ := h x List.mem_cons_self acc s (by omega) p
    have hi := (List.getElem?_eq_some_iff.mp hs).1
    have put : bindT (.nm i) x s = .ok () (s.set i (.val x)) := by
      show putS i (.val x) s = _
      unfold putS
      rw [hs, decide_eq_true hi]
      rfl
    have wip : wipeC [i] s2 = .ok () (s2.set i .emp) := by
      unfold wipeC
      rw [List.any_cons, List.any_nil, h3]
      rfl
    obtain ⟨acc', s', e, q, ql⟩ := compL_inv N P xs (acc ++ [d]) _ h4 (by rw [List.length_append, List.length_singleton]; omega) hl (fun y hy => h y (List.mem_cons_of_mem _ hy))
    refine ⟨acc', s', ?_, q, ql⟩
    show ((bindT (.nm i) x s).bind _) = _
    rw [put, bind_ok, h1, bind_ok]
    show (elt (s.set i (.val x))).bind _ = _
    rw [h2, bind_ok, if_pos (by omega), wip, bind_ok, e]
/-- a loop whose turns go on -/
theorem forL_inv {bind : D → Ev → Rs Unit} {body : Ev → Rs Fl} (P : Nat → Ev → Prop) : ∀ (xs : List D) (n : Nat) (s : Ev), P n s → (∀ i (x : D), xs[i]? = some x → ∀ s, P (n + i) s → ∃ s1 f s2, bind x s = .ok () s1 ∧ body s1 = .ok f s2 ∧ (f = .nx ∨ f = .ct) ∧ P (n + i + 1) s2) →
    ∃ s', forL bind body xs s = .ok .nx s' ∧ P (n + xs.length) s'
  | [], n, s, p, _ => ⟨s, rfl, p⟩
  | x :: xs, n, s, p, h => by
    obtain ⟨s1, f, s2, h1, h2, h3, h4⟩ := h 0 x rfl s p
    obtain ⟨s', e, q⟩ := forL_inv P xs (n + 1) s2 h4 (fun i y hy s p => by
      have := h (i + 1) y hy s (by rw [show n + (i + 1) = n + 1 + i by omega]; exact p)
      rw [show n + (i + 1) + 1 = n + 1 + i + 1 by omega] at this
      exact this)
    refine ⟨s', ?_, by rw [List.length_cons, show n + (xs.length + 1) = n + 1 + xs.length by omega]; exact q⟩
    show ((bind x s).bind _) = _
    rw [h1, bind_ok, h2, bind_ok]
    rcases h3 with rfl | rfl <;> exact e
end
end GS

/-! GS25: the evaluator's wishes, rule by rule (to be used from right to left, or by simp only). -/
namespace GS
open PySem

/-- the wish at an answer, closed to the unifier -/
inductive WG {α : Type} : Rs α → (α → Ev → Prop) → (Xn → Ev → Prop) → Prop
  | ok {a : α} {s : Ev} {P : α → Ev → Prop} {E : Xn → Ev → Prop} (h : P a s) : WG (.ok a s) P E
  | er {x : Xn} {s : Ev} {P : α → Ev → Prop} {E : Xn → Ev → Prop} (h : E x s) : WG (.er x s) P E
theorem WG.mono {α : Type} {r : Rs α} {P P' : α → Ev → Prop} {E E' : Xn → Ev → Prop} (h : WG r P E) (p : ∀ a s, P a s → P' a s) (e : ∀ x s, E x s → E' x s) : WG r P' E' := by
  cases h with
  | ok h => exact .ok (p _ _ h)
  | er h => exact .er (e _ _ h)
theorem WG_bind {α β : Type} {r : Rs α} {f : α → Ev → Rs β} {P : β → Ev → Prop} {E : Xn → Ev → Prop} : WG (r.bind f) P E ↔ WG r (fun a s => WG (f a s) P E) E := by
  cases r with
  | ok a s => exact ⟨fun h => .ok h, fun h => (by cases h with | ok h => exact h)⟩
  | er x s => exact ⟨fun h => (by cases h with | er h => exact .er h), fun h => (by cases h with | er h => exact .er h)⟩
  | stuck => exact ⟨fun h => (by cases h), fun h => (by cases h)⟩
inductive wpR : FR → (RV → Option Ob → Prop) → (Xn → Option Ob → Prop) → Prop
  | ok {v : RV} {o : Option Ob} {P : RV → Option Ob → Prop} {E : Xn → Option Ob → Prop} (h : P v o) : wpR (.ok v o) P E
  | er {x : Xn} {o : Option Ob} {P : RV → Option Ob → Prop} {E : Xn → Option Ob → Prop} (h : E x o) : wpR (.er x o) P E
theorem wpR.mono {r : FR} {P P' : RV → Option Ob → Prop} {E E' : Xn → Option Ob → Prop} (h : wpR r P E) (p : ∀ v o, P v o → P' v o) (e : ∀ x o, E x o → E' x o) : wpR r P' E' := by
  cases h with
  | ok h => exact .ok (p _ _ h)
  | er h => exact .er (e _ _ h)
theorem wpR_eq {r : FR} {v : RV} {o : Option Ob} (h : wpR r (fun v' o' => v' = v ∧ o' = o) fun _ _ => False) : r = .ok v o := by
  cases h with
  | ok h =>
    obtain ⟨e1, e2⟩ := h
    rw [e1, e2]
  | er h => exact h.elim
theorem wpR_of {r : FR} {v : RV} {o : Option Ob} {P : RV → Option Ob → Prop} {E : Xn → Option Ob → Prop} (e : r = .ok v o) (h : P v o) : wpR r P E := by rw [e]; exact .ok h
section
variable {α β : Type} {O : Ora} {s : Ev} {E : Xn → Ev → Prop} {P : RV → Ev → Prop} {a b c e : GS.CE} {es fs : CEs} {i : Nat}
theorem w_ok {x : α} {Q : α → Ev → Prop} : WG (Rs.ok x s) Q E ↔ Q x s := ⟨fun h => (by cases h with | ok h => exact h), fun h => .ok h⟩
theorem w_st {Q : α → Ev → Prop} : WG (Rs.stuck) Q E ↔ False := ⟨fun h => (by cases h), fun h => h.elim⟩
theorem w_if {p : Prop} [Decidable p] {x y : Rs α} {Q : α → Ev → Prop} : WG (if p then x else y) Q E ↔ if p then WG x Q E else WG y Q E := by split <;> exact Iff.rfl
theorem w_opt {o : Option α} {Q : α → Ev → Prop} : WG (Rs.opt o s) Q E ↔ ∃ x, o = some x ∧ Q x s := by
  cases o with
  | none => exact ⟨fun h => (w_st.mp h).elim, fun ⟨_, h, _⟩ => by cases h⟩
  | some x => exact ⟨fun h => ⟨x, rfl, w_ok.mp h⟩, fun ⟨_, h, q⟩ => by cases h; exact w_ok.mpr q⟩
theorem if_st {p : Prop} [Decidable p] {q : Prop} : (if p then q else False) ↔ p ∧ q := by
  by_cases h : p
  · rw [if_pos h]; exact ⟨fun z => ⟨h, z⟩, fun z => z.2⟩
  · rw [if_neg h]; exact ⟨fun z => z.elim, fun z => h z.1⟩
theorem if_st' {p : Prop} [Decidable p] {q : Prop} : (if p then False else q) ↔ ¬ p ∧ q := by
  by_cases h : p
  · rw [if_pos h]; exact ⟨fun z => z.elim, fun z => z.1 h⟩
  · rw [if_neg h]; exact ⟨fun z => ⟨h, z⟩, fun z => z.2⟩
/-! ### expressions -/
theorem e_con {d : D} : WG (ev O (.con d) s) P E ↔ P (.d d) s := w_ok
theorem e_val {d : D} (h : s[i]? = some (.val d)) : WG (ev O (.var i) s) P E ↔ P (.d d) s := by
  show WG (match s[i]? with
    | some (.val d) => Rs.ok (RV.d d) s
    | some (.own _) => .ok (.sl i) s
    | some (.io _) => .ok (.sl i) s
    | _ => .stuck) P E ↔ _
  rw [h]
  exact w_ok
theorem e_own {o : Ob} (h : s[i]? = some (.own o)) : WG (ev O (.var i) s) P E ↔ P (.sl i) s := by
  show WG (match s[i]? with
    | some (.val d) => Rs.ok (RV.d d) s
    | some (.own _) => .ok (.sl i) s
    | some (.io _) => .ok (.sl i) s
    | _ => .stuck) P E ↔ _
  rw [h]
  exact w_ok
theorem e_io {o : Ob} (h : s[i]? = some (.io o)) : WG (ev O (.var i) s) P E ↔ P (.sl i) s := by
  show WG (match s[i]? with
    | some (.val d) => Rs.ok (RV.d d) s
    | some (.own _) => .ok (.sl i) s
    | some (.io _) => .ok (.sl i) s
    | _ => .stuck) P E ↔ _
  rw [h]
  exact w_ok
theorem e_glob {x : Str} : WG (ev O (.glob x) s) P E ↔ ∃ d, O.G x = some d ∧ P (.d d) s := by
  show WG (Rs.opt ((O.G x).map RV.d) s) P E ↔ _
  rw [w_opt]
  constructor
  · rintro ⟨x, h, q⟩
    obtain ⟨d, h1, rfl⟩ := Option.map_eq_some_iff.mp h
    exact ⟨d, h1, q⟩
  · rintro ⟨d, h, q⟩
    exact ⟨_, by rw [h]; rfl, q⟩
/-- two operands' values -/
def both (s : Ev) (x y : RV) (f : D → D → Prop) : Prop := ∃ u v, x.opd.get s = some u ∧ y.opd.get s = some v ∧ f u v
theorem w_both {x y : RV} {f : D → D → Rs RV} : WG (match x.opd.get s, y.opd.get s with
    | some x, some y => f x y
    | _, _ => .stuck) P E ↔ both s x y fun u v => WG (f u v) P E := by
  constructor
  · intro h
    split at h
    · rename_i u v e1 e2
      exact ⟨u, v, e1, e2, h⟩
    · exact (w_st.mp h).elim
  · rintro ⟨u, v, e1, e2, h⟩
    rw [e1, e2]
    exact h
theorem e_bin {o : Operator} : WG (ev O (.bin o a b) s) P E ↔ WG (ev O a s) (fun x s => WG (ev O b s) (fun y s => both s x y fun u v => ∃ r, binD o u v = some r ∧ P r s) E) E := by
  show WG ((ev O a s).bind fun x s => (ev O b s).bind fun y s => match x.opd.get s, y.opd.get s with
    | some x, some y => Rs.opt (binD o x y) s
    | _, _ => .stuck) P E ↔ _
  simp only [WG_bind, w_both, w_opt]
theorem e_cmp {o : CmpOp} : WG (ev O (.cmp o a b) s) P E ↔ WG (ev O a s) (fun x s => WG (ev O b s) (fun y s => both s x y fun u v => ∃ r, cmpD o u v = some r ∧ P (.d (.bool r)) s) E) E := by
  show WG ((ev O a s).bind fun x s => (ev O b s).bind fun y s => match x.opd.get s, y.opd.get s with
    | some x, some y => Rs.opt ((cmpD o x y).map fun c => .d (.bool c)) s
    | _, _ => .stuck) P E ↔ _
  simp only [WG_bind, w_both, w_opt, Option.map_eq_some_iff]
  constructor <;> intro h <;> refine h.mono (fun x s h => h.mono (fun y s h => ?_) fun _ _ z => z) fun _ _ z => z
  · obtain ⟨u, v, e1, e2, _, ⟨r, e3, rfl⟩, q⟩ := h
    exact ⟨u, v, e1, e2, r, e3, q⟩
  · obtain ⟨u, v, e1, e2, r, e3, q⟩ := h
    exact ⟨u, v, e1, e2, _, ⟨r, e3, rfl⟩, q⟩
theorem e_idx : WG (ev O (.idx a b) s) P E ↔ WG (ev O a s) (fun x s => WG (ev O b s) (fun y s => both s x y fun u v => ∃ r, idxD u v = some r ∧ P (.d r) s) E) E := by
  show WG ((ev O a s).bind fun x s => (ev O b s).bind fun y s => match x.opd.get s, y.opd.get s with
    | some x, some y => Rs.opt ((idxD x y).map RV.d) s
    | _, _ => .stuck) P E ↔ _
  simp only [WG_bind, w_both, w_opt, Option.map_eq_some_iff]
  constructor <;> intro h <;> refine h.mono (fun x s h => h.mono (fun y s h => ?_) fun _ _ z => z) fun _ _ z => z
  · obtain ⟨u, v, e1, e2, _, ⟨r, e3, rfl⟩, q⟩ := h
    exact ⟨u, v, e1, e2, r, e3, q⟩
  · obtain ⟨u, v, e1, e2, r, e3, q⟩ := h
    exact ⟨u, v, e1, e2, _, ⟨r, e3, rfl⟩, q⟩
/-- a value's truth -/
def trv (s : Ev) (x : RV) (f : Bool → Prop) : Prop := ∃ t, (x.opd.get s).bind truD = some t ∧ f t
theorem w_trv {x : RV} {f g : Rs α} {Q : α → Ev → Prop} : WG (match (x.opd.get s).bind truD with
    | some true => f
    | some false => g
    | none => .stuck) Q E ↔ trv s x fun t => if t then WG f Q E else WG g Q E := by
  constructor
  · intro h
    split at h
    · rename_i e1
      exact ⟨true, e1, h⟩
    · rename_i e1
      exact ⟨false, e1, h⟩
    · exact (w_st.mp h).elim
  · rintro ⟨t, e1, h⟩
    rw [e1]
    cases t with
    | true => rw [if_pos rfl] at h; exact h
    | false => rw [if_neg Bool.false_ne_true] at h; exact h
theorem e_ite : WG (ev O (.ite c a b) s) P E ↔ WG (ev O c s) (fun x s => trv s x fun t => if t then WG (ev O a s) P E else WG (ev O b s) P E) E := by
  show WG ((ev O c s).bind fun x s => match (x.opd.get s).bind truD with
    | some true => ev O a s
    | some false => ev O b s
    | none => .stuck) P E ↔ _
  simp only [WG_bind, w_trv]
theorem e_and : WG (ev O (.and a b) s) P E ↔ WG (ev O a s) (fun x s => trv s x fun t => if t then WG (ev O b s) P E else P x s) E := by
  show WG ((ev O a s).bind fun x s => match (x.opd.get s).bind truD with
    | some true => ev O b s
    | some false => .ok x s
    | none => .stuck) P E ↔ _
  simp only [WG_bind, w_trv, w_ok]
theorem e_or : WG (ev O (.or a b) s) P E ↔ WG (ev O a s) (fun x s => trv s x fun t => if t then P x s else WG (ev O b s) P E) E := by
  show WG ((ev O a s).bind fun x s => match (x.opd.get s).bind truD with
    | some true => .ok x s
    | some false => ev O b s
    | none => .stuck) P E ↔ _
  simp only [WG_bind, w_trv, w_ok]
theorem e_not : WG (ev O (.not a) s) P E ↔ WG (ev O a s) (fun x s => trv s x fun t => P (.d (.bool (!t))) s) E := by
  show WG ((ev O a s).bind fun x s => Rs.opt (((x.opd.get s).bind truD).map fun b => .d (.bool (!b))) s) P E ↔ _
  simp only [WG_bind, w_opt, Option.map_eq_some_iff]
  constructor <;> intro h <;> refine h.mono (fun x s h => ?_) fun _ _ z => z
  · obtain ⟨_, ⟨t, e, rfl⟩, q⟩ := h
    exact ⟨t, e, q⟩
  · obtain ⟨t, e, q⟩ := h
    exact ⟨_, ⟨t, e, rfl⟩, q⟩
theorem e_neg (h : WG (ev O a s) (fun x s => ∃ n, x = .d (.int n) ∧ P (.d (.int (-n))) s) E) : WG (ev O (.neg a) s) P E := by
  show WG ((ev O a s).bind fun x s => match x with
    | .d (.int i) => .ok (.d (.int (-i))) s
    | _ => .stuck) P E
  refine WG_bind.mpr (h.mono (fun x s h => ?_) fun _ _ z => z)
  obtain ⟨n, rfl, q⟩ := h
  exact w_ok.mpr q
theorem e_isi {t : String} : WG (ev O (.isi a t) s) P E ↔ WG (ev O a s) (fun x s => ∃ r, (x.opd.get s).bind (fun d => isiD d t) = some r ∧ P (.d (.bool r)) s) E := by
  show WG ((ev O a s).bind fun x s => Rs.opt (((x.opd.get s).bind fun d => isiD d t).map fun c => .d (.bool c)) s) P E ↔ _
  simp only [WG_bind, w_opt, Option.map_eq_some_iff]
  constructor <;> intro h <;> refine h.mono (fun x s h => ?_) fun _ _ z => z
  · obtain ⟨_, ⟨t, e, rfl⟩, q⟩ := h
    exact ⟨t, e, q⟩
  · obtain ⟨t, e, q⟩ := h
    exact ⟨_, ⟨t, e, rfl⟩, q⟩
variable {PL : List RV → Ev → Prop}
theorem e_nil : WG (evs O .nil s) PL E ↔ PL [] s := w_ok
theorem e_cons : WG (evs O (.cons a es) s) PL E ↔ WG (ev O a s) (fun x s => WG (evs O es s) (fun vs s => PL (x :: vs) s) E) E := by
  show WG ((ev O a s).bind fun x s => (evs O es s).bind fun vs s => .ok (x :: vs) s) PL E ↔ _
  simp only [WG_bind, w_ok]
theorem e_bi {f : String} : WG (ev O (.bi f es) s) P E ↔ WG (evs O es s) (fun os s => ∃ r, (getAll s (os.map RV.opd)).bind (biD f) = some r ∧ P r s) E := by
  show WG ((evs O es s).bind fun os s => Rs.opt ((getAll s (os.map RV.opd)).bind (biD f)) s) P E ↔ _
  simp only [WG_bind, w_opt]
theorem e_tup : WG (ev O (.tup es) s) P E ↔ WG (evs O es s) (fun vs s => WG (frzL vs s) (fun ds s => ds.length ≤ sizeLine ∧ P (.d (.tuple ds)) s) E) E := by
  show WG ((evs O es s).bind fun vs s => (frzL vs s).bind fun ds s => if ds.length ≤ sizeLine then .ok (.d (.tuple ds)) s else .stuck) P E ↔ _
  simp only [WG_bind, w_if, w_ok, w_st, if_st]
theorem e_lst : WG (ev O (.lst es) s) P E ↔ WG (evs O es s) (fun vs s => WG (frzL vs s) (fun ds s => ds.length ≤ sizeLine ∧ P (.own (.lst ds)) s) E) E := by
  show WG ((evs O es s).bind fun vs s => (frzL vs s).bind fun ds s => if ds.length ≤ sizeLine then .ok (.own (.lst ds)) s else .stuck) P E ↔ _
  simp only [WG_bind, w_if, w_ok, w_st, if_st]
theorem e_call {f : Str} {ps : List PA} (h : WG (evs O es s) (fun os s => ∃ as, argsOf (frzA (os.map RV.opd) ps s) (os.map RV.opd) ps = some as ∧
      wpR (O.Φ f as) (fun v out => ∃ s', outTo (frzA (os.map RV.opd) ps s) (lentOf (os.map RV.opd) ps) out = some s' ∧ P v (if flatR v && (lentOf (os.map RV.opd) ps).isNone then s else s')) fun x out => ∃ s', outTo (frzA (os.map RV.opd) ps s) (lentOf (os.map RV.opd) ps) out = some s' ∧ E x s') E) :
    WG (ev O (.call f es ps) s) P E := by
  refine WG_bind.mpr (h.mono (fun os s h => ?_) fun _ _ z => z)
  obtain ⟨as, e1, h⟩ := h
  rw [e1]
  show WG (match O.Φ f as with
    | .ok v out => match outTo (frzA (os.map RV.opd) ps s) (lentOf (os.map RV.opd) ps) out with
      | some s' => if flatR v && (lentOf (os.map RV.opd) ps).isNone then .ok v s else .ok v s'
      | none => .stuck
    | .er x out => match outTo (frzA (os.map RV.opd) ps s) (lentOf (os.map RV.opd) ps) out with
      | some s' => .er x s'
      | none => .stuck
    | .stuck => .stuck) P E
  cases q : O.Φ f as with
  | ok v out =>
    rw [q] at h
    obtain ⟨s', e2, h⟩ : ∃ s', outTo (frzA (os.map RV.opd) ps s) (lentOf (os.map RV.opd) ps) out = some s' ∧ P v (if flatR v && (lentOf (os.map RV.opd) ps).isNone then s else s') := by cases h with | ok h => exact h
    dsimp only
    rw [e2]
    dsimp only
    rw [w_if]
    split at h
    · rename_i c; rw [if_pos c]; exact w_ok.mpr h
    · rename_i c; rw [if_neg c]; exact w_ok.mpr h
  | er x out =>
    rw [q] at h
    obtain ⟨s', e2, h⟩ : ∃ s', outTo (frzA (os.map RV.opd) ps s) (lentOf (os.map RV.opd) ps) out = some s' ∧ E x s' := by cases h with | er h => exact h
    dsimp only
    rw [e2]
    exact .er h
  | stuck =>
    rw [q] at h
    cases h
/-- a draw's call: the lent slot 0, one number -/
theorem e_call2 {f : Str} {o : Ob} {d : D} (hs : s[0]? = some (.io o)) (h : WG (ev O a s) (fun x s1 => x = .d d ∧ s1 = s) E) (q : wpR (O.Φ f [.io o, .d d]) (fun v out => ∃ o', out = some o' ∧ P v (s.set 0 (.io o'))) fun x out => ∃ o', out = some o' ∧ E x (s.set 0 (.io o'))) :
    WG (ev O (.call f (.cons (.var 0) (.cons a .nil)) [.io 0, .pos 1]) s) P E := by
  refine e_call (e_cons.mpr ((e_io hs).mpr (e_cons.mpr (h.mono (fun x s1 z => ?_) fun _ _ z => z))))
  obtain ⟨rfl, rfl⟩ := z
  refine e_nil.mpr ⟨[.io o, .d d], ?_, q.mono (fun v out z => ?_) fun x out z => ?_⟩
  · show (match (some (Opd.sl 0) : Option Opd), argsOf s1 [Opd.sl 0, .d d] [.pos 1] with
      | some (.sl i), some as => (ownAt s1 i).map fun o => AV.io o :: as
      | _, _ => none) = _
    show (ownAt s1 0).map _ = _
    rw [io_at hs]
    rfl
  · obtain ⟨o', rfl, p⟩ := z
    refine ⟨s1.set 0 (.io o'), ?_, ?_⟩
    · show some (setOb s1 0 o') = _
      unfold setOb
      rw [hs]
    · have e : (lentOf ([RV.sl 0, .d d].map RV.opd) [.io 0, .pos 1]).isNone = false := rfl
      rw [e, Bool.and_false, if_neg Bool.false_ne_true]
      exact p
  · obtain ⟨o', rfl, p⟩ := z
    refine ⟨s1.set 0 (.io o'), ?_, p⟩
    show some (setOb s1 0 o') = _
    unfold setOb
    rw [hs]
theorem e_meth {m : String} (h : WG (ev O a s) (fun x s => (x.opd.get s).map (mtOf m) = some true ∧ WG (evs O es s) (fun os s => WG (if m == "get" then frzL os s else Rs.opt (getAll s (os.map RV.opd)) s) (fun ds s => ∃ u r, x.opd.get s = some u ∧ methD m u ds = some r ∧ P r s) E) E) E) : WG (ev O (.meth m a es) s) P E := by
  refine WG_bind.mpr (h.mono (fun x s h => ?_) fun _ _ z => z)
  obtain ⟨e1, h⟩ := h
  rw [e1]
  show WG ((evs O es s).bind fun os s => (if m == "get" then frzL os s else Rs.opt (getAll s (os.map RV.opd)) s).bind fun ds s => match x.opd.get s with
    | some x => Rs.opt (methD m x ds) s
    | none => .stuck) P E
  refine WG_bind.mpr (h.mono (fun os s h => WG_bind.mpr (h.mono (fun ds s h => ?_) fun _ _ z => z)) fun _ _ z => z)
  obtain ⟨u, r, e2, e3, q⟩ := h
  rw [e2]
  exact w_opt.mpr ⟨r, e3, q⟩
theorem e_mut {m : String} (h : isLst (ownAt s i) = true ∧ WG (evs O es s) (fun os s => WG (frzL os s) (fun ds s => ∃ xs d o', ownAt s i = some (.lst xs) ∧ mutD m (.lst xs) ds = some (d, o') ∧ P (.d d) (setOb s i o')) E) E) : WG (ev O (.mut m i es) s) P E := by
  obtain ⟨e1, h⟩ := h
  show WG (if !isLst (ownAt s i) then Rs.stuck else (evs O es s).bind fun os s => (frzL os s).bind fun ds s => match ownAt s i with
    | some (.lst xs) => match mutD m (.lst xs) ds with
      | some (d, o') => .ok (.d d) (setOb s i o')
      | none => .stuck
    | _ => .stuck) P E
  rw [if_neg (by rw [e1]; decide)]
  refine WG_bind.mpr (h.mono (fun os s h => WG_bind.mpr (h.mono (fun ds s h => ?_) fun _ _ z => z)) fun _ _ z => z)
  obtain ⟨xs, d, o', e2, e3, q⟩ := h
  rw [e2]
  dsimp only
  rw [e3]
  exact w_ok.mpr q
/-! ### statements -/
variable {Q : Fl → Ev → Prop} {st : CS} {r : CSs}
theorem b_nil : WG (exB O .nil s) Q E ↔ Q .nx s := w_ok
theorem b_cons : WG (exB O (.cons st r) s) Q E ↔ WG (exS O st s) (fun f s => match f with | .nx => WG (exB O r s) Q E | f => Q f s) E := by
  show WG ((exS O st s).bind fun f s => match f with
    | .nx => exB O r s
    | f => .ok f s) Q E ↔ _
  rw [WG_bind]
  constructor <;> intro h <;> refine h.mono (fun f s h => ?_) fun _ _ z => z
  · cases f <;> first | exact h | exact w_ok.mp h
  · cases f <;> first | exact h | exact w_ok.mpr h
theorem s_ex : WG (exS O (.ex e) s) Q E ↔ WG (ev O e s) (fun _ s => Q .nx s) E := by
  show WG ((ev O e s).bind fun _ s => .ok .nx s) Q E ↔ _
  simp only [WG_bind, w_ok]
theorem s_set : WG (exS O (.set i e) s) Q E ↔ WG (ev O e s) (fun v s => WG (putV i v s) (fun _ s => Q .nx s) E) E := by
  show WG ((ev O e s).bind fun v s => (putV i v s).bind fun _ s => .ok .nx s) Q E ↔ _
  simp only [WG_bind, w_ok]
theorem s_tset {tg : CT} : WG (exS O (.tset tg e) s) Q E ↔ WG (ev O e s) (fun v s => WG (frz v s) (fun d s => WG (bindT tg d s) (fun _ s => Q .nx s) E) E) E := by
  show WG ((ev O e s).bind fun v s => (frz v s).bind fun d s => (bindT tg d s).bind fun _ s => .ok .nx s) Q E ↔ _
  simp only [WG_bind, w_ok]
theorem s_par {j : Nat} : WG (exS O (.par i j a b) s) Q E ↔ WG (ev O a s) (fun x s => WG (stl x s) (fun x s => WG (ev O b s) (fun y s => WG (stl y s) (fun y s => WG (putV i x s) (fun _ s => WG (putV j y s) (fun _ s => Q .nx s) E) E) E) E) E) E := by
  show WG ((ev O a s).bind fun x s => (stl x s).bind fun x s => (ev O b s).bind fun y s => (stl y s).bind fun y s => (putV i x s).bind fun _ s => (putV j y s).bind fun _ s => .ok .nx s) Q E ↔ _
  simp only [WG_bind, w_ok]
theorem s_ife {q : CSs} : WG (exS O (.ife c r q) s) Q E ↔ WG (ev O c s) (fun x s => trv s x fun t => if t then WG (exB O r s) Q E else WG (exB O q s) Q E) E := by
  show WG (((ev O c s).bind fun x s => Rs.opt ((x.opd.get s).bind truD) s).bind fun t s => if t then exB O r s else exB O q s) Q E ↔ _
  simp only [WG_bind, w_opt, w_if]
  rfl
theorem s_ret : WG (exS O (.ret e) s) Q E ↔ WG (ev O e s) (fun v s => WG (retV v s) Q E) E := by
  show WG ((ev O e s).bind retV) Q E ↔ _
  rw [WG_bind]
/-! ### stores -/
theorem p_d {d : D} {QU : Unit → Ev → Prop} (hl : i < s.length) (h : isIo s[i]? = false) (q : QU () (s.set i (.val d))) : WG (putV i (.d d) s) QU E := by
  show WG (putS i (.val d) s) QU E
  unfold putS
  rw [decide_eq_true hl, h]
  exact w_ok.mpr q
theorem p_o {o : Ob} {QU : Unit → Ev → Prop} (hl : i < s.length) (h : isIo s[i]? = false) (q : QU () (s.set i (.own o))) : WG (putV i (.own o) s) QU E := by
  show WG (putS i (.own o) s) QU E
  unfold putS
  rw [decide_eq_true hl, h]
  exact w_ok.mpr q
end
/-! ### loops -/
theorem while_more {c : Ev → Rs Bool} {b : Ev → Rs Fl} : ∀ (n : Nat) (s : Ev), whileN n c b s ≠ .stuck → ∀ m, n ≤ m → whileN m c b s = whileN n c b s
  | 0, s, h, m, _ => (h rfl).elim
  | n + 1, s, h, m, hm => by
    obtain ⟨m, rfl⟩ : ∃ k, m = k + 1 := ⟨m - 1, by omega⟩
    show ((c s).bind fun t s => if t then (b s).bind fun f s => match f with
      | .nx => whileN m c b s
      | .ct => whileN m c b s
      | .brk => .ok .nx s
      | .ret v => .ok (.ret v) s
      else .ok .nx s) = ((c s).bind fun t s => if t then (b s).bind fun f s => match f with
      | .nx => whileN n c b s
      | .ct => whileN n c b s
      | .brk => .ok .nx s
      | .ret v => .ok (.ret v) s
      else .ok .nx s)
    have h : ((c s).bind fun t s => if t then (b s).bind fun f s => match f with
      | .nx => whileN n c b s
      | .ct => whileN n c b s
      | .brk => .ok .nx s
      | .ret v => .ok (.ret v) s
      else .ok .nx s) ≠ .stuck := h
    cases q : c s with
    | er x s1 => rfl
    | stuck => rfl
    | ok t s1 =>
      rw [q] at h
      cases t with
      | false => rfl
      | true =>
        have h : ((b s1).bind fun f s => match f with
          | .nx => whileN n c b s
          | .ct => whileN n c b s
          | .brk => .ok .nx s
          | .ret v => .ok (.ret v) s) ≠ .stuck := h
        show ((b s1).bind _) = ((b s1).bind _)
        cases q2 : b s1 with
        | er x s2 => rfl
        | stuck => rfl
        | ok f s2 =>
          rw [q2] at h
          cases f with
          | nx => exact while_more n s2 h m (by omega)
          | ct => exact while_more n s2 h m (by omega)
          | brk => rfl
          | ret v => rfl
theorem wp_whileN {c : Ev → Rs Bool} {b : Ev → Rs Fl} {Q : Fl → Ev → Prop} {E : Xn → Ev → Prop} (I : Nat → Ev → Prop)
    (step : ∀ n s, I n s → WG (c s) (fun t s => if t then WG (b s) (fun f s => match f with | .nx => ∃ m, m < n ∧ I m s | .ct => ∃ m, m < n ∧ I m s | .brk => Q .nx s | .ret v => Q (.ret v) s) E else Q .nx s) E) :
    ∀ (n : Nat) (s : Ev), I n s → WG (whileN (n + 1) c b s) Q E := by
  intro n
  induction n using Nat.strongRecOn with
  | ind n ih =>
    intro s hI
    refine WG_bind.mpr ((step n s hI).mono (fun t s1 h => ?_) fun _ _ z => z)
    cases t with
    | false => exact w_ok.mpr h
    | true =>
      have h : WG (b s1) _ E := h
      refine WG_bind.mpr (h.mono (fun f s2 h => ?_) fun _ _ z => z)
      have go : (∃ m, m < n ∧ I m s2) → WG (whileN n c b s2) Q E := fun ⟨m, hm, h⟩ => by
        have w := ih m hm s2 h
        have ne : whileN (m + 1) c b s2 ≠ .stuck := fun z => by rw [z] at w; cases w
        rw [while_more (m + 1) s2 ne n hm]
        exact w
      cases f with
      | nx => exact go h
      | ct => exact go h
      | brk => exact w_ok.mpr h
      | ret v => exact w_ok.mpr h
open Classical in
theorem wp_while {c : Ev → Rs Bool} {b : Ev → Rs Fl} {Q : Fl → Ev → Prop} {E : Xn → Ev → Prop} {s : Ev} (I : Nat → Ev → Prop) (n : Nat) (h0 : I n s)
    (step : ∀ n s, I n s → WG (c s) (fun t s => if t then WG (b s) (fun f s => match f with | .nx => ∃ m, m < n ∧ I m s | .ct => ∃ m, m < n ∧ I m s | .brk => Q .nx s | .ret v => Q (.ret v) s) E else Q .nx s) E) : WG (whileW c b s) Q E := by
  have w := wp_whileN I step n s h0
  have ne : whileN (n + 1) c b s ≠ .stuck := fun z => by rw [z] at w; cases w
  have ex : ∃ n, whileN n c b s ≠ .stuck := ⟨_, ne⟩
  unfold whileW
  rw [dif_pos ex]
  have ch := Classical.choose_spec ex
  have e : whileN (Classical.choose ex) c b s = whileN (n + 1) c b s := by
    rcases Nat.le_total (Classical.choose ex) (n + 1) with l | l
    · exact (while_more _ s ch _ l).symm
    · exact while_more _ s ne _ l
  rw [e]
  exact w
theorem s_whl {O : Ora} {c : GS.CE} {r : CSs} {s : Ev} {Q : Fl → Ev → Prop} {E : Xn → Ev → Prop} (hO : O.Λ = whileW) (I : Nat → Ev → Prop) (n : Nat) (h0 : I n s)
    (step : ∀ n s, I n s → WG (ev O c s) (fun x s => trv s x fun t => if t then WG (exB O r s) (fun f s => match f with | .nx => ∃ m, m < n ∧ I m s | .ct => ∃ m, m < n ∧ I m s | .brk => Q .nx s | .ret v => Q (.ret v) s) E else Q .nx s) E) : WG (exS O (.whl c r) s) Q E := by
  show WG (O.Λ (fun s => evB O c s) (fun s => exB O r s) s) Q E
  rw [hO]
  refine wp_while I n h0 fun n s h => ?_
  show WG ((ev O c s).bind fun x s => Rs.opt ((x.opd.get s).bind truD) s) _ E
  refine WG_bind.mpr ((step n s h).mono (fun x s h => ?_) fun _ _ z => z)
  obtain ⟨t, e, h⟩ := h
  exact w_opt.mpr ⟨t, e, h⟩
theorem wp_for {bind : D → Ev → Rs Unit} {body : Ev → Rs Fl} {Q : Fl → Ev → Prop} {E : Xn → Ev → Prop} {xs : List D} (I : Nat → Ev → Prop)
    (step : ∀ i x s, xs[i]? = some x → I i s → WG (bind x s) (fun _ s => WG (body s) (fun f s => match f with | .nx => I (i + 1) s | .ct => I (i + 1) s | .brk => Q .nx s | .ret v => Q (.ret v) s) E) E) (fin : ∀ s, I xs.length s → Q .nx s) :
    ∀ {s : Ev}, I 0 s → WG (forL bind body xs s) Q E := by
  have all : ∀ (n : Nat) (s : Ev), n ≤ xs.length → I (xs.length - n) s → WG (forL bind body (xs.drop (xs.length - n)) s) Q E := by
    intro n
    induction n with
    | zero =>
      intro s _ h
      rw [Nat.sub_zero, List.drop_length]
      exact w_ok.mpr (fin s h)
    | succ n ih =>
      intro s hn h
      have lt : xs.length - (n + 1) < xs.length := by omega
      rw [List.drop_eq_getElem_cons lt]
      have nx : xs.length - (n + 1) + 1 = xs.length - n := by omega
      refine WG_bind.mpr ((step _ _ s (List.getElem?_eq_getElem lt) h).mono (fun _ s h => WG_bind.mpr (h.mono (fun f s h => ?_) fun _ _ z => z)) fun _ _ z => z)
      rw [nx] at h ⊢
      cases f with
      | nx => exact ih s (by omega) h
      | ct => exact ih s (by omega) h
      | brk => exact w_ok.mpr h
      | ret v => exact w_ok.mpr h
  intro s h
  have := all xs.length s (Nat.le_refl _) (by rw [Nat.sub_self]; exact h)
  rw [Nat.sub_self, List.drop_zero] at this
  exact this
theorem s_for {O : Ora} {tg : CT} {it : CI} {r : CSs} {s : Ev} {Q : Fl → Ev → Prop} {E : Xn → Ev → Prop} (h : WG (evI O it s) (fun xs s => ∃ I : Nat → Ev → Prop, I 0 s ∧
      (∀ i x s, xs[i]? = some x → I i s → WG (bindT tg x s) (fun _ s => WG (exB O r s) (fun f s => match f with | .nx => I (i + 1) s | .ct => I (i + 1) s | .brk => Q .nx s | .ret v => Q (.ret v) s) E) E) ∧ ∀ s, I xs.length s → Q .nx s) E) : WG (exS O (.for_ tg it r) s) Q E := by
  refine WG_bind.mpr (h.mono (fun xs s ⟨I, h0, st, fin⟩ => wp_for I st fin h0) fun _ _ z => z)
/-- a comprehension: an invariant over the turns -/
theorem wp_comp {ow : List Nat} {tg : CT} {tests : Ev → Rs Bool} {elt : Ev → Rs D} {Q : List D → Ev → Prop} {E : Xn → Ev → Prop} {xs : List D} (I : Nat → List D → Ev → Prop)
    (step : ∀ i x acc s, xs[i]? = some x → I i acc s → WG (bindT tg x s) (fun _ s => WG (tests s) (fun t s => if t then WG (elt s) (fun d s => acc.length < sizeLine ∧ WG (wipeC ow s) (fun _ s => I (i + 1) (acc ++ [d]) s) E) E else WG (wipeC ow s) (fun _ s => I (i + 1) acc s) E) E) E)
    (fin : ∀ acc s, I xs.length acc s → Q acc s) : ∀ {acc : List D} {s : Ev}, I 0 acc s → WG (compL ow tg tests elt xs acc s) Q E := by
  have all : ∀ (n : Nat) (acc : List D) (s : Ev), n ≤ xs.length → I (xs.length - n) acc s → WG (compL ow tg tests elt (xs.drop (xs.length - n)) acc s) Q E := by
    intro n
    induction n with
    | zero =>
      intro acc s _ h
      rw [Nat.sub_zero, List.drop_length]
      exact w_ok.mpr (fin acc s h)
    | succ n ih =>
      intro acc s hn h
      have lt : xs.length - (n + 1) < xs.length := by omega
      rw [List.drop_eq_getElem_cons lt]
      have nx : xs.length - (n + 1) + 1 = xs.length - n := by omega
      refine WG_bind.mpr ((step _ _ acc s (List.getElem?_eq_getElem lt) h).mono (fun _ s h => WG_bind.mpr (h.mono (fun t s h => ?_) fun _ _ z => z)) fun _ _ z => z)
      rw [nx] at h ⊢
      cases t with
      | false => exact WG_bind.mpr (h.mono (fun _ s h => ih acc s (by omega) h) fun _ _ z => z)
      | true =>
        have h : WG (elt s) _ E := h
        refine WG_bind.mpr (h.mono (fun d s ⟨l, h⟩ => ?_) fun _ _ z => z)
        rw [if_pos l]
        exact WG_bind.mpr (h.mono (fun _ s h => ih _ s (by omega) h) fun _ _ z => z)
  intro acc s h
  have := all xs.length acc s (Nat.le_refl _) (by rw [Nat.sub_self]; exact h)
  rw [Nat.sub_self, List.drop_zero] at this
  exact this
/-- a def's run -/
theorem wp_run {p : Prog} {f : Str} {n ps : Nat} {io : Option Nat} {body : CSs} {k : Nat} {as : List AV} {P : RV → Option Ob → Prop} {E : Xn → Option Ob → Prop} (h : p.fs f = some ⟨n, ps, io, body⟩) (ok : (decide (as.length = ps) && decide (ps ≤ n) && ioFits as io) = true)
    (hb : ∀ O : Ora, O.Φ = run p k → O.G = p.G → O.Λ = p.Λ → WG (exB O body (startS n as)) (fun fl s => match fl with | .ret v => P v (outOf s io) | .nx => P (.d .none) (outOf s io) | _ => False) fun x s => E x (outOf s io)) : wpR (run p (k + 1) f as) P E := by
  rw [run_at h, if_pos ok]
  have w := hb ⟨run p k, p.Λ, p.G⟩ rfl rfl rfl
  show wpR (endF io (exB ⟨run p k, p.Λ, p.G⟩ body (startS n as))) P E
  generalize exB ⟨run p k, p.Λ, p.G⟩ body (startS n as) = r at w
  cases w with
  | ok w =>
    rename_i fl s
    cases fl with
    | ret v => exact .ok w
    | nx => exact .ok w
    | brk => exact w.elim
    | ct => exact w.elim
  | er w => exact .er w
theorem w_frzL {ds : List D} {s : Ev} {Q : List D → Ev → Prop} {E : Xn → Ev → Prop} (h : Q ds s) : WG (frzL (ds.map RV.d) s) Q E := by
  have e : ∀ (ds : List D), frzL (ds.map RV.d) s = .ok ds s := fun ds => by
    induction ds with
    | nil => rfl
    | cons d r ih =>
      show (frz (.d d) s).bind _ = _
      rw [show frz (.d d) s = .ok d s from rfl, bind_ok, ih, bind_ok]
  rw [e]
  exact w_ok.mpr h
theorem w_retd {v : D} {s : Ev} {Q : Fl → Ev → Prop} {E : Xn → Ev → Prop} (h : Q (.ret (.d v)) s) : WG (retV (.d v) s) Q E := w_ok.mpr h
theorem w_reto {o : Ob} {s : Ev} {Q : Fl → Ev → Prop} {E : Xn → Ev → Prop} (h : Q (.ret (.own o)) s) : WG (retV (.own o) s) Q E := w_ok.mpr h
theorem w_rets {i : Nat} {o : Ob} {s : Ev} {Q : Fl → Ev → Prop} {E : Xn → Ev → Prop} (e : s[i]? = some (.own o)) (h : Q (.ret (.own o)) (s.set i .emp)) : WG (retV (.sl i) s) Q E := by
  have : retV (.sl i) s = .ok (.ret (.own o)) (s.set i .emp) := by
    show (match s[i]? with
      | some (.own o) => Rs.ok (Fl.ret (.own o)) (s.set i .emp)
      | some (.val d) => .ok (.ret (.d d)) s
      | _ => .stuck) = _
    rw [e]
  rw [this]
  exact w_ok.mpr h
/-- a new or plain value is settled -/
theorem w_stld {d : D} {s : Ev} {Q : RV → Ev → Prop} {E : Xn → Ev → Prop} (h : Q (.d d) s) : WG (stl (.d d) s) Q E := w_ok.mpr h
theorem w_stlo {o : Ob} {s : Ev} {Q : RV → Ev → Prop} {E : Xn → Ev → Prop} (h : Q (.own o) s) : WG (stl (.own o) s) Q E := w_ok.mpr h
theorem frz_own {i : Nat} {o : Ob} {s : Ev} (e : s[i]? = some (.own o)) : frz (.sl i) s = .ok o.toD (s.set i (.val o.toD)) := by
  show (match s[i]? with
    | some (.val d) => Rs.ok d s
    | some (.own o) => .ok o.toD (s.set i (.val o.toD))
    | _ => .stuck) = _
  rw [e]
theorem w_stls {i : Nat} {o : Ob} {s : Ev} {Q : RV → Ev → Prop} {E : Xn → Ev → Prop} (e : s[i]? = some (.own o)) (h : Q (.d o.toD) (s.set i (.val o.toD))) : WG (stl (.sl i) s) Q E := by
  show WG ((frz (.sl i) s).bind fun d s => .ok (.d d) s) Q E
  rw [frz_own e]
  exact w_ok.mpr h
theorem w_frzd {d : D} {s : Ev} {Q : D → Ev → Prop} {E : Xn → Ev → Prop} (h : Q d s) : WG (frz (.d d) s) Q E := w_ok.mpr h
theorem w_frzo {o : Ob} {s : Ev} {Q : D → Ev → Prop} {E : Xn → Ev → Prop} (h : Q o.toD s) : WG (frz (.own o) s) Q E := w_ok.mpr h
theorem w_frzs {i : Nat} {o : Ob} {s : Ev} {Q : D → Ev → Prop} {E : Xn → Ev → Prop} (e : s[i]? = some (.own o)) (h : Q o.toD (s.set i (.val o.toD))) : WG (frz (.sl i) s) Q E := by
  rw [frz_own e]
  exact w_ok.mpr h
end GS

theorem GS.some_get {α : Type} {o : Option α} {d : α} (h : o.isSome = true) : o = some (o.getD d) := by cases o with | none => cases h | some a => rfl
namespace K24
open PySem GS L2
def topS (i : Nat) : Stmt := PySem.Challenge.pw_gateslack_k24_slacks_along_paths.main.body.getD i (.Pass ⟨0, 0, 0, 0⟩)
def sigs : List (Str × Sig) := ([  ("is_whole", ⟨["thing", "least", "most"], 1, [none, some (PyData.int (0)), some (PyData.int (999))], none⟩),   ("is_name", ⟨["thing"], 1, [none], none⟩),   ("starts_of", ⟨["netlist"], 1, [none], none⟩),   ("ends_of", ⟨["netlist"], 1, [none], none⟩),   ("corners_of", ⟨["netlist"], 1, [none], none⟩),   ("feeding", ⟨["netlist"], 1, [none], none⟩),   ("is_path", ⟨["netlist", "thing"], 2, [none, none], none⟩),   ("need_path", ⟨["netlist", "path"], 2, [none, none], none⟩),   ("are_skews", ⟨["netlist", "thing"], 2, [none, none], none⟩),   ("is_clock", ⟨["netlist", "thing"], 2, [none, none], none⟩),   ("need_clock", ⟨["netlist", "clock"], 2, [none, none], none⟩),   ("is_corner", ⟨["netlist", "thing"], 2, [none, none], none⟩),   ("need_corner", ⟨["netlist", "corner"], 2, [none, none], none⟩),   ("fits_end", ⟨["netlist", "side", "end"], 3, [none, none, none], none⟩),   ("sums_along", ⟨["netlist", "path", "corner"], 3, [none, none, none], none⟩),   ("delays_of", ⟨["netlist", "path", "corner"], 2, [none, none, some (PyData.int (0))], none⟩),   ("slack_by", ⟨["netlist", "clock", "path", "side", "corner"], 5, [none, none, none, none, none], none⟩),   ("slack_along", ⟨["netlist", "clock", "path", "side", "corner"], 3, [none, none, none, some (PyData.str "late"), some (PyData.int (0))], none⟩),   ("_law_begin", ⟨["script"], 1, [none], none⟩),   ("_law_mixed", ⟨["cell", "k"], 2, [none, none], none⟩)] : List (Str × Sig)) ++ ([  ("_law_next", ⟨["draw", "many"], 2, [none, none], some 0⟩),   ("_law_names", ⟨["draw", "many"], 2, [none, none], some 0⟩),   ("_law_picked", ⟨["draw", "row", "many"], 3, [none, none, none], some 0⟩),   ("_law_delays", ⟨["draw", "corners"], 2, [none, none], some 0⟩),   ("_law_gate", ⟨["draw", "name", "ahead", "corners"], 4, [none, none, none, none], some 0⟩),   ("_law_many", ⟨["gates", "ends", "starts"], 3, [none, none, none], none⟩),   ("_law_register", ⟨["draw", "name", "data"], 3, [none, none, none], some 0⟩),   ("_law_netlist", ⟨["draw", "most"], 2, [none, none], some 0⟩),   ("_law_clock", ⟨["draw", "netlist"], 2, [none, none], some 0⟩),   ("_law_ways", ⟨["net"], 1, [none], none⟩),   ("_law_sums", ⟨["net", "way", "spot"], 3, [none, none, none], none⟩),   ("_law_slack", ⟨["net", "timer", "way", "which", "spot"], 5, [none, none, none, none, none], none⟩),   ("_law_corners", ⟨["net"], 1, [none], none⟩),   ("_law_checks", ⟨["net"], 1, [none], none⟩),   ("_law_way_right", ⟨["net", "timer", "way"], 3, [none, none, none], none⟩),   ("law", ⟨["script"], 1, [none], none⟩)] : List (Str × Sig))
def pats : List (Str × Nat × List Str) := ([("is_whole", 1, ["most"]), ("need_path", 2, []), ("need_corner", 2, []), ("sums_along", 3, []), ("need_clock", 2, []), ("slack_by", 5, []), ("_law_picked", 3, []), ("_law_names", 2, []), ("_law_sums", 3, []), ("_law_begin", 1, []), ("is_path", 2, []), ("is_whole", 1, ["least", "most"]), ("are_skews", 2, []), ("is_clock", 2, []), ("is_corner", 2, []), ("fits_end", 3, []), ("_law_mixed", 2, []), ("_law_next", 2, []), ("_law_delays", 2, []), ("_law_register", 3, [])] : List (Str × Nat × List Str)) ++ ([("_law_corners", 1, []), ("_law_netlist", 2, []), ("_law_clock", 2, []), ("starts_of", 1, []), ("ends_of", 1, []), ("feeding", 1, []), ("_law_many", 3, []), ("_law_checks", 1, []), ("delays_of", 2, []), ("slack_along", 3, []), ("_law_slack", 5, []), ("corners_of", 1, []), ("_law_gate", 4, []), ("delays_of", 1, ["path", "corner"]), ("slack_along", 3, ["corner"]), ("slack_along", 3, ["side", "corner"]), ("slack_along", 1, ["path", "clock", "corner", "side"]), ("is_name", 1, []), ("_law_way_right", 3, []), ("_law_ways", 1, [])] : List (Str × Nat × List Str))
def T : Tabs := ⟨sigs, pats, ["all", "tuple", "range", "sum", "dict", "sorted", "isinstance", "int", "len", "list", "min", "repr", "bool", "str", "zip"], ["MOST", "SMALL", "MOST_LETTERS", "MOST_PERIOD", "MOST_SHIFT"]⟩
def N_is_whole : List Str := ["thing", "least", "most"]
def N_is_name : List Str := ["thing", "letter"]
def N_starts_of : List Str := ["netlist", "latch"]
def N_ends_of : List Str := ["netlist", "things", "thing"]
def N_corners_of : List Str := ["netlist"]
def N_feeding : List Str := ["netlist", "found", "gate", "things", "thing"]
def N_is_path : List Str := ["netlist", "thing", "first", "others", "gates", "end", "pins", "at", "name", "gate"]
def N_need_path : List Str := ["netlist", "path"]
def N_are_skews : List Str := ["netlist", "thing", "one"]
def N_is_clock : List Str := ["netlist", "thing"]
def N_need_clock : List Str := ["netlist", "clock"]
def N_is_corner : List Str := ["netlist", "thing"]
def N_need_corner : List Str := ["netlist", "corner"]
def N_fits_end : List Str := ["netlist", "side", "end", "row"]
def N_sums_along : List Str := ["netlist", "path", "corner", "pairs", "gate", "early", "late"]
def N_delays_of : List Str := ["netlist", "path", "corner"]
def N_slack_by : List Str := ["netlist", "clock", "path", "side", "corner", "period", "skews", "shifts", "needs", "early", "late", "leaves", "comes", "setup", "hold", "row", "skew"]
def N_slack_along : List Str := ["netlist", "clock", "path", "side", "corner"]
def N__law_begin : List Str := ["script"]
def N__law_mixed : List Str := ["cell", "k", "number"]
def N__law_next : List Str := ["draw", "many", "found", "cells", "cell"]
def N__law_names : List Str := ["draw", "many", "letters", "found", "size", "name", "words", "rest", "k", "one"]
def N__law_picked : List Str := ["draw", "row", "many", "rest", "found"]
def N__law_delays : List Str := ["draw", "corners", "found", "k", "late"]
def N__law_gate : List Str := ["draw", "name", "ahead", "corners", "near", "kind", "many", "pins"]
def N__law_many : List Str := ["gates", "ends", "starts", "many", "name", "gate", "pin"]
def N__law_register : List Str := ["draw", "name", "data", "setup", "hold", "low"]
def N__law_netlist : List Str := ["draw", "most", "inputs", "registers", "outputs", "corners", "names", "starts", "gates", "places", "data", "name", "ahead", "more", "fresh", "own", "led", "gate", "k", "one"]
def N__law_clock : List Str := ["draw", "netlist", "beat", "swings", "one"]
def N__law_ways : List Str := ["net", "pins", "waiting", "found", "way", "gate", "one", "pin"]
def N__law_sums : List Str := ["net", "way", "spot", "pairs", "gate", "early", "late"]
def N__law_slack : List Str := ["net", "timer", "way", "which", "spot", "shifts", "needs", "here", "there", "setup", "hold", "early", "late", "one"]
def N__law_corners : List Str := ["net"]
def N__law_checks : List Str := ["net", "some", "found", "spot", "one"]
def N__law_way_right : List Str := ["net", "timer", "way", "sides", "spot", "which", "due", "told", "end", "one"]
def N_law : List Str := ["script", "draw", "some", "net", "timer", "kept", "k", "way"]
def c_is_whole : CSs := (trB T N_is_whole 400 ⟨defScope (topS 11), fun _ => true⟩ (defBody (topS 11))).getD .nil
def d_is_whole : Def := ⟨"is_whole", "is_whole", defArgs (topS 11), defBody (topS 11), defScope (topS 11), N_is_whole, ["thing", "least", "most"], none, 400, c_is_whole⟩
def h_is_whole : He.DefD := ⟨("is_whole", none), "is_whole", "is_whole", defArgs (topS 11), defBody (topS 11), defScope (topS 11), [], [("least", .int (0)), ("most", .int (999))]⟩
def c_is_name : CSs := (trB T N_is_name 400 ⟨defScope (topS 12), fun _ => true⟩ (defBody (topS 12))).getD .nil
def d_is_name : Def := ⟨"is_name", "is_name", defArgs (topS 12), defBody (topS 12), defScope (topS 12), N_is_name, ["thing"], none, 400, c_is_name⟩
def h_is_name : He.DefD := ⟨("is_name", none), "is_name", "is_name", defArgs (topS 12), defBody (topS 12), defScope (topS 12), [], []⟩
def c_starts_of : CSs := (trB T N_starts_of 400 ⟨defScope (topS 14), fun _ => true⟩ (defBody (topS 14))).getD .nil
def d_starts_of : Def := ⟨"starts_of", "starts_of", defArgs (topS 14), defBody (topS 14), defScope (topS 14), N_starts_of, ["netlist"], none, 400, c_starts_of⟩
def h_starts_of : He.DefD := ⟨("starts_of", none), "starts_of", "starts_of", defArgs (topS 14), defBody (topS 14), defScope (topS 14), [], []⟩
def c_ends_of : CSs := (trB T N_ends_of 400 ⟨defScope (topS 15), fun _ => true⟩ (defBody (topS 15))).getD .nil
def d_ends_of : Def := ⟨"ends_of", "ends_of", defArgs (topS 15), defBody (topS 15), defScope (topS 15), N_ends_of, ["netlist"], none, 400, c_ends_of⟩
def h_ends_of : He.DefD := ⟨("ends_of", none), "ends_of", "ends_of", defArgs (topS 15), defBody (topS 15), defScope (topS 15), [], []⟩
def c_corners_of : CSs := (trB T N_corners_of 400 ⟨defScope (topS 16), fun _ => true⟩ (defBody (topS 16))).getD .nil
def d_corners_of : Def := ⟨"corners_of", "corners_of", defArgs (topS 16), defBody (topS 16), defScope (topS 16), N_corners_of, ["netlist"], none, 400, c_corners_of⟩
def h_corners_of : He.DefD := ⟨("corners_of", none), "corners_of", "corners_of", defArgs (topS 16), defBody (topS 16), defScope (topS 16), [], []⟩
def c_feeding : CSs := (trB T N_feeding 400 ⟨defScope (topS 17), fun _ => true⟩ (defBody (topS 17))).getD .nil
def d_feeding : Def := ⟨"feeding", "feeding", defArgs (topS 17), defBody (topS 17), defScope (topS 17), N_feeding, ["netlist"], none, 400, c_feeding⟩
def h_feeding : He.DefD := ⟨("feeding", none), "feeding", "feeding", defArgs (topS 17), defBody (topS 17), defScope (topS 17), [], []⟩
def c_is_path : CSs := (trB T N_is_path 400 ⟨defScope (topS 18), fun _ => true⟩ (defBody (topS 18))).getD .nil
def d_is_path : Def := ⟨"is_path", "is_path", defArgs (topS 18), defBody (topS 18), defScope (topS 18), N_is_path, ["netlist", "thing"], none, 400, c_is_path⟩
def h_is_path : He.DefD := ⟨("is_path", none), "is_path", "is_path", defArgs (topS 18), defBody (topS 18), defScope (topS 18), [], []⟩
def c_need_path : CSs := (trB T N_need_path 400 ⟨defScope (topS 20), fun _ => true⟩ (defBody (topS 20))).getD .nil
def d_need_path : Def := ⟨"need_path", "need_path", defArgs (topS 20), defBody (topS 20), defScope (topS 20), N_need_path, ["netlist", "path"], none, 400, c_need_path⟩
def h_need_path : He.DefD := ⟨("need_path", none), "need_path", "need_path", defArgs (topS 20), defBody (topS 20), defScope (topS 20), [], []⟩
def c_are_skews : CSs := (trB T N_are_skews 400 ⟨defScope (topS 24), fun _ => true⟩ (defBody (topS 24))).getD .nil
def d_are_skews : Def := ⟨"are_skews", "are_skews", defArgs (topS 24), defBody (topS 24), defScope (topS 24), N_are_skews, ["netlist", "thing"], none, 400, c_are_skews⟩
def h_are_skews : He.DefD := ⟨("are_skews", none), "are_skews", "are_skews", defArgs (topS 24), defBody (topS 24), defScope (topS 24), [], []⟩
def c_is_clock : CSs := (trB T N_is_clock 400 ⟨defScope (topS 25), fun _ => true⟩ (defBody (topS 25))).getD .nil
def d_is_clock : Def := ⟨"is_clock", "is_clock", defArgs (topS 25), defBody (topS 25), defScope (topS 25), N_is_clock, ["netlist", "thing"], none, 400, c_is_clock⟩
def h_is_clock : He.DefD := ⟨("is_clock", none), "is_clock", "is_clock", defArgs (topS 25), defBody (topS 25), defScope (topS 25), [], []⟩
def c_need_clock : CSs := (trB T N_need_clock 400 ⟨defScope (topS 26), fun _ => true⟩ (defBody (topS 26))).getD .nil
def d_need_clock : Def := ⟨"need_clock", "need_clock", defArgs (topS 26), defBody (topS 26), defScope (topS 26), N_need_clock, ["netlist", "clock"], none, 400, c_need_clock⟩
def h_need_clock : He.DefD := ⟨("need_clock", none), "need_clock", "need_clock", defArgs (topS 26), defBody (topS 26), defScope (topS 26), [], []⟩
def c_is_corner : CSs := (trB T N_is_corner 400 ⟨defScope (topS 27), fun _ => true⟩ (defBody (topS 27))).getD .nil
def d_is_corner : Def := ⟨"is_corner", "is_corner", defArgs (topS 27), defBody (topS 27), defScope (topS 27), N_is_corner, ["netlist", "thing"], none, 400, c_is_corner⟩
def h_is_corner : He.DefD := ⟨("is_corner", none), "is_corner", "is_corner", defArgs (topS 27), defBody (topS 27), defScope (topS 27), [], []⟩
def c_need_corner : CSs := (trB T N_need_corner 400 ⟨defScope (topS 28), fun _ => true⟩ (defBody (topS 28))).getD .nil
def d_need_corner : Def := ⟨"need_corner", "need_corner", defArgs (topS 28), defBody (topS 28), defScope (topS 28), N_need_corner, ["netlist", "corner"], none, 400, c_need_corner⟩
def h_need_corner : He.DefD := ⟨("need_corner", none), "need_corner", "need_corner", defArgs (topS 28), defBody (topS 28), defScope (topS 28), [], []⟩
def c_fits_end : CSs := (trB T N_fits_end 400 ⟨defScope (topS 29), fun _ => true⟩ (defBody (topS 29))).getD .nil
def d_fits_end : Def := ⟨"fits_end", "fits_end", defArgs (topS 29), defBody (topS 29), defScope (topS 29), N_fits_end, ["netlist", "side", "end"], none, 400, c_fits_end⟩
def h_fits_end : He.DefD := ⟨("fits_end", none), "fits_end", "fits_end", defArgs (topS 29), defBody (topS 29), defScope (topS 29), [], []⟩
def c_sums_along : CSs := (trB T N_sums_along 400 ⟨defScope (topS 30), fun _ => true⟩ (defBody (topS 30))).getD .nil
def d_sums_along : Def := ⟨"sums_along", "sums_along", defArgs (topS 30), defBody (topS 30), defScope (topS 30), N_sums_along, ["netlist", "path", "corner"], none, 400, c_sums_along⟩
def h_sums_along : He.DefD := ⟨("sums_along", none), "sums_along", "sums_along", defArgs (topS 30), defBody (topS 30), defScope (topS 30), [], []⟩
def c_delays_of : CSs := (trB T N_delays_of 400 ⟨defScope (topS 31), fun _ => true⟩ (defBody (topS 31))).getD .nil
def d_delays_of : Def := ⟨"delays_of", "delays_of", defArgs (topS 31), defBody (topS 31), defScope (topS 31), N_delays_of, ["netlist", "path", "corner"], none, 400, c_delays_of⟩
def h_delays_of : He.DefD := ⟨("delays_of", none), "delays_of", "delays_of", defArgs (topS 31), defBody (topS 31), defScope (topS 31), [], [("corner", .int (0))]⟩
def c_slack_by : CSs := (trB T N_slack_by 400 ⟨defScope (topS 32), fun _ => true⟩ (defBody (topS 32))).getD .nil
def d_slack_by : Def := ⟨"slack_by", "slack_by", defArgs (topS 32), defBody (topS 32), defScope (topS 32), N_slack_by, ["netlist", "clock", "path", "side", "corner"], none, 400, c_slack_by⟩
def h_slack_by : He.DefD := ⟨("slack_by", none), "slack_by", "slack_by", defArgs (topS 32), defBody (topS 32), defScope (topS 32), [], []⟩
def c_slack_along : CSs := (trB T N_slack_along 400 ⟨defScope (topS 33), fun _ => true⟩ (defBody (topS 33))).getD .nil
def d_slack_along : Def := ⟨"slack_along", "slack_along", defArgs (topS 33), defBody (topS 33), defScope (topS 33), N_slack_along, ["netlist", "clock", "path", "side", "corner"], none, 400, c_slack_along⟩
def h_slack_along : He.DefD := ⟨("slack_along", none), "slack_along", "slack_along", defArgs (topS 33), defBody (topS 33), defScope (topS 33), [], [("side", .str "late"), ("corner", .int (0))]⟩
def c__law_begin : CSs := (trB T N__law_begin 400 ⟨defScope (topS 35), fun _ => true⟩ (defBody (topS 35))).getD .nil
def d__law_begin : Def := ⟨"_law_begin", "_law_begin", defArgs (topS 35), defBody (topS 35), defScope (topS 35), N__law_begin, ["script"], none, 400, c__law_begin⟩
def h__law_begin : He.DefD := ⟨("_law_begin", none), "_law_begin", "_law_begin", defArgs (topS 35), defBody (topS 35), defScope (topS 35), [], []⟩
def c__law_mixed : CSs := (trB T N__law_mixed 400 ⟨defScope (topS 36), fun _ => true⟩ (defBody (topS 36))).getD .nil
def d__law_mixed : Def := ⟨"_law_mixed", "_law_mixed", defArgs (topS 36), defBody (topS 36), defScope (topS 36), N__law_mixed, ["cell", "k"], none, 400, c__law_mixed⟩
def h__law_mixed : He.DefD := ⟨("_law_mixed", none), "_law_mixed", "_law_mixed", defArgs (topS 36), defBody (topS 36), defScope (topS 36), [], []⟩
def c__law_next : CSs := (trB T N__law_next 400 ⟨defScope (topS 37), fun _ => true⟩ (defBody (topS 37))).getD .nil
def d__law_next : Def := ⟨"_law_next", "_law_next", defArgs (topS 37), defBody (topS 37), defScope (topS 37), N__law_next, ["draw", "many"], some 0, 400, c__law_next⟩
def h__law_next : He.DefD := ⟨("_law_next", none), "_law_next", "_law_next", defArgs (topS 37), defBody (topS 37), defScope (topS 37), [], []⟩
def c__law_names : CSs := (trB T N__law_names 400 ⟨defScope (topS 38), fun _ => true⟩ (defBody (topS 38))).getD .nil
def d__law_names : Def := ⟨"_law_names", "_law_names", defArgs (topS 38), defBody (topS 38), defScope (topS 38), N__law_names, ["draw", "many"], some 0, 400, c__law_names⟩
def h__law_names : He.DefD := ⟨("_law_names", none), "_law_names", "_law_names", defArgs (topS 38), defBody (topS 38), defScope (topS 38), [], []⟩
def c__law_picked : CSs := (trB T N__law_picked 400 ⟨defScope (topS 39), fun _ => true⟩ (defBody (topS 39))).getD .nil
def d__law_picked : Def := ⟨"_law_picked", "_law_picked", defArgs (topS 39), defBody (topS 39), defScope (topS 39), N__law_picked, ["draw", "row", "many"], some 0, 400, c__law_picked⟩
def h__law_picked : He.DefD := ⟨("_law_picked", none), "_law_picked", "_law_picked", defArgs (topS 39), defBody (topS 39), defScope (topS 39), [], []⟩
def c__law_delays : CSs := (trB T N__law_delays 400 ⟨defScope (topS 40), fun _ => true⟩ (defBody (topS 40))).getD .nil
def d__law_delays : Def := ⟨"_law_delays", "_law_delays", defArgs (topS 40), defBody (topS 40), defScope (topS 40), N__law_delays, ["draw", "corners"], some 0, 400, c__law_delays⟩
def h__law_delays : He.DefD := ⟨("_law_delays", none), "_law_delays", "_law_delays", defArgs (topS 40), defBody (topS 40), defScope (topS 40), [], []⟩
def c__law_gate : CSs := (trB T N__law_gate 400 ⟨defScope (topS 41), fun _ => true⟩ (defBody (topS 41))).getD .nil
def d__law_gate : Def := ⟨"_law_gate", "_law_gate", defArgs (topS 41), defBody (topS 41), defScope (topS 41), N__law_gate, ["draw", "name", "ahead", "corners"], some 0, 400, c__law_gate⟩
def h__law_gate : He.DefD := ⟨("_law_gate", none), "_law_gate", "_law_gate", defArgs (topS 41), defBody (topS 41), defScope (topS 41), [], []⟩
def c__law_many : CSs := (trB T N__law_many 400 ⟨defScope (topS 42), fun _ => true⟩ (defBody (topS 42))).getD .nil
def d__law_many : Def := ⟨"_law_many", "_law_many", defArgs (topS 42), defBody (topS 42), defScope (topS 42), N__law_many, ["gates", "ends", "starts"], none, 400, c__law_many⟩
def h__law_many : He.DefD := ⟨("_law_many", none), "_law_many", "_law_many", defArgs (topS 42), defBody (topS 42), defScope (topS 42), [], []⟩
def c__law_register : CSs := (trB T N__law_register 400 ⟨defScope (topS 43), fun _ => true⟩ (defBody (topS 43))).getD .nil
def d__law_register : Def := ⟨"_law_register", "_law_register", defArgs (topS 43), defBody (topS 43), defScope (topS 43), N__law_register, ["draw", "name", "data"], some 0, 400, c__law_register⟩
def h__law_register : He.DefD := ⟨("_law_register", none), "_law_register", "_law_register", defArgs (topS 43), defBody (topS 43), defScope (topS 43), [], []⟩
def c__law_netlist : CSs := (trB T N__law_netlist 400 ⟨defScope (topS 44), fun _ => true⟩ (defBody (topS 44))).getD .nil
def d__law_netlist : Def := ⟨"_law_netlist", "_law_netlist", defArgs (topS 44), defBody (topS 44), defScope (topS 44), N__law_netlist, ["draw", "most"], some 0, 400, c__law_netlist⟩
def h__law_netlist : He.DefD := ⟨("_law_netlist", none), "_law_netlist", "_law_netlist", defArgs (topS 44), defBody (topS 44), defScope (topS 44), [], []⟩
def c__law_clock : CSs := (trB T N__law_clock 400 ⟨defScope (topS 45), fun _ => true⟩ (defBody (topS 45))).getD .nil
def d__law_clock : Def := ⟨"_law_clock", "_law_clock", defArgs (topS 45), defBody (topS 45), defScope (topS 45), N__law_clock, ["draw", "netlist"], some 0, 400, c__law_clock⟩
def h__law_clock : He.DefD := ⟨("_law_clock", none), "_law_clock", "_law_clock", defArgs (topS 45), defBody (topS 45), defScope (topS 45), [], []⟩
def c__law_ways : CSs := (trB T N__law_ways 400 ⟨defScope (topS 46), fun _ => true⟩ (defBody (topS 46))).getD .nil
def d__law_ways : Def := ⟨"_law_ways", "_law_ways", defArgs (topS 46), defBody (topS 46), defScope (topS 46), N__law_ways, ["net"], none, 400, c__law_ways⟩
def h__law_ways : He.DefD := ⟨("_law_ways", none), "_law_ways", "_law_ways", defArgs (topS 46), defBody (topS 46), defScope (topS 46), [], []⟩
def c__law_sums : CSs := (trB T N__law_sums 400 ⟨defScope (topS 47), fun _ => true⟩ (defBody (topS 47))).getD .nil
def d__law_sums : Def := ⟨"_law_sums", "_law_sums", defArgs (topS 47), defBody (topS 47), defScope (topS 47), N__law_sums, ["net", "way", "spot"], none, 400, c__law_sums⟩
def h__law_sums : He.DefD := ⟨("_law_sums", none), "_law_sums", "_law_sums", defArgs (topS 47), defBody (topS 47), defScope (topS 47), [], []⟩
def c__law_slack : CSs := (trB T N__law_slack 400 ⟨defScope (topS 48), fun _ => true⟩ (defBody (topS 48))).getD .nil
def d__law_slack : Def := ⟨"_law_slack", "_law_slack", defArgs (topS 48), defBody (topS 48), defScope (topS 48), N__law_slack, ["net", "timer", "way", "which", "spot"], none, 400, c__law_slack⟩
def h__law_slack : He.DefD := ⟨("_law_slack", none), "_law_slack", "_law_slack", defArgs (topS 48), defBody (topS 48), defScope (topS 48), [], []⟩
def c__law_corners : CSs := (trB T N__law_corners 400 ⟨defScope (topS 49), fun _ => true⟩ (defBody (topS 49))).getD .nil
def d__law_corners : Def := ⟨"_law_corners", "_law_corners", defArgs (topS 49), defBody (topS 49), defScope (topS 49), N__law_corners, ["net"], none, 400, c__law_corners⟩
def h__law_corners : He.DefD := ⟨("_law_corners", none), "_law_corners", "_law_corners", defArgs (topS 49), defBody (topS 49), defScope (topS 49), [], []⟩
def c__law_checks : CSs := (trB T N__law_checks 400 ⟨defScope (topS 50), fun _ => true⟩ (defBody (topS 50))).getD .nil
def d__law_checks : Def := ⟨"_law_checks", "_law_checks", defArgs (topS 50), defBody (topS 50), defScope (topS 50), N__law_checks, ["net"], none, 400, c__law_checks⟩
def h__law_checks : He.DefD := ⟨("_law_checks", none), "_law_checks", "_law_checks", defArgs (topS 50), defBody (topS 50), defScope (topS 50), [], []⟩
def c__law_way_right : CSs := (trB T N__law_way_right 400 ⟨defScope (topS 51), fun _ => true⟩ (defBody (topS 51))).getD .nil
def d__law_way_right : Def := ⟨"_law_way_right", "_law_way_right", defArgs (topS 51), defBody (topS 51), defScope (topS 51), N__law_way_right, ["net", "timer", "way"], none, 400, c__law_way_right⟩
def h__law_way_right : He.DefD := ⟨("_law_way_right", none), "_law_way_right", "_law_way_right", defArgs (topS 51), defBody (topS 51), defScope (topS 51), [], []⟩
def c_law : CSs := (trB T N_law 400 ⟨defScope (topS 52), fun _ => true⟩ (defBody (topS 52))).getD .nil
def d_law : Def := ⟨"law", "law", defArgs (topS 52), defBody (topS 52), defScope (topS 52), N_law, ["script"], none, 400, c_law⟩
def h_law : He.DefD := ⟨("law", none), "law", "law", defArgs (topS 52), defBody (topS 52), defScope (topS 52), [], []⟩
def ds : List Def := ([d_is_whole, d_is_name, d_starts_of, d_ends_of, d_corners_of, d_feeding, d_is_path, d_need_path, d_are_skews, d_is_clock, d_need_clock, d_is_corner, d_need_corner, d_fits_end, d_sums_along, d_delays_of, d_slack_by, d_slack_along, d__law_begin, d__law_mixed] : List Def) ++ ([d__law_next, d__law_names, d__law_picked, d__law_delays, d__law_gate, d__law_many, d__law_register, d__law_netlist, d__law_clock, d__law_ways, d__law_sums, d__law_slack, d__law_corners, d__law_checks, d__law_way_right, d_law] : List Def)
def fsL : List (Str × FD) := ds.map fun d => (d.name, ⟨d.N.length, d.ps.length, d.io, d.core⟩)
def cons : List (Str × D) := [("MOST", PyData.int (999)), ("SMALL", PyData.str "abcdefghijklmnopqrstuvwxyz"), ("MOST_LETTERS", PyData.int (8)), ("MOST_PERIOD", PyData.int (99999)), ("MOST_SHIFT", PyData.int (9999))]
noncomputable def prog : Prog := ⟨fun x => fsL.lookup x, whileW, fun x => cons.lookup x⟩
def fn : List He.DefD := ([h_is_whole, h_is_name, h_starts_of, h_ends_of, h_corners_of, h_feeding, h_is_path, h_need_path, h_are_skews, h_is_clock, h_need_clock, h_is_corner, h_need_corner, h_fits_end, h_sums_along, h_delays_of, h_slack_by, h_slack_along, h__law_begin, h__law_mixed] : List He.DefD) ++ ([h__law_next, h__law_names, h__law_picked, h__law_delays, h__law_gate, h__law_many, h__law_register, h__law_netlist, h__law_clock, h__law_ways, h__law_sums, h__law_slack, h__law_corners, h__law_checks, h__law_way_right, h_law] : List He.DefD)
def fa : List He.Fa := ([.glo "is_whole", .glo "is_name", .glo "starts_of", .glo "ends_of", .glo "corners_of", .glo "feeding", .glo "is_path", .glo "need_path", .glo "are_skews", .glo "is_clock", .glo "need_clock", .glo "is_corner", .glo "need_corner", .glo "fits_end", .glo "sums_along", .glo "delays_of", .glo "slack_by", .glo "slack_along", .glo "_law_begin", .glo "_law_mixed"] : List He.Fa) ++ ([.glo "_law_next", .glo "_law_names", .glo "_law_picked", .glo "_law_delays", .glo "_law_gate", .glo "_law_many", .glo "_law_register", .glo "_law_netlist", .glo "_law_clock", .glo "_law_ways", .glo "_law_sums", .glo "_law_slack", .glo "_law_corners", .glo "_law_checks", .glo "_law_way_right", .glo "law", .free "all", .free "tuple", .free "range", .free "sum"] : List He.Fa) ++ ([.free "dict", .free "sorted", .free "isinstance", .free "int", .free "len", .free "list", .free "min", .free "repr", .free "bool", .free "str", .free "zip", .int "MOST" (999), .str "SMALL" "abcdefghijklmnopqrstuvwxyz", .int "MOST_LETTERS" (8), .int "MOST_PERIOD" (99999), .int "MOST_SHIFT" (9999)] : List He.Fa)
theorem tr_is_whole : trB T d_is_whole.N d_is_whole.fuel ⟨d_is_whole.scope, fun _ => true⟩ d_is_whole.body = some d_is_whole.core := some_get (d := CSs.nil) (by decide +kernel)
theorem sc_is_whole : FnScope d_is_whole.N d_is_whole.ps d_is_whole.scope := ⟨rfl, rfl, rfl, by decide +kernel, rfl, by decide +kernel, by decide +kernel⟩
theorem tr_is_name : trB T d_is_name.N d_is_name.fuel ⟨d_is_name.scope, fun _ => true⟩ d_is_name.body = some d_is_name.core := some_get (d := CSs.nil) (by decide +kernel)
theorem sc_is_name : FnScope d_is_name.N d_is_name.ps d_is_name.scope := ⟨rfl, rfl, rfl, by decide +kernel, rfl, by decide +kernel, by decide +kernel⟩
theorem tr_starts_of : trB T d_starts_of.N d_starts_of.fuel ⟨d_starts_of.scope, fun _ => true⟩ d_starts_of.body = some d_starts_of.core := some_get (d := CSs.nil) (by decide +kernel)
theorem sc_starts_of : FnScope d_starts_of.N d_starts_of.ps d_starts_of.scope := ⟨rfl, rfl, rfl, by decide +kernel, rfl, by decide +kernel, by decide +kernel⟩
theorem tr_ends_of : trB T d_ends_of.N d_ends_of.fuel ⟨d_ends_of.scope, fun _ => true⟩ d_ends_of.body = some d_ends_of.core := some_get (d := CSs.nil) (by decide +kernel)
theorem sc_ends_of : FnScope d_ends_of.N d_ends_of.ps d_ends_of.scope := ⟨rfl, rfl, rfl, by decide +kernel, rfl, by decide +kernel, by decide +kernel⟩
theorem tr_corners_of : trB T d_corners_of.N d_corners_of.fuel ⟨d_corners_of.scope, fun _ => true⟩ d_corners_of.body = some d_corners_of.core := some_get (d := CSs.nil) (by decide +kernel)
theorem sc_corners_of : FnScope d_corners_of.N d_corners_of.ps d_corners_of.scope := ⟨rfl, rfl, rfl, by decide +kernel, rfl, by decide +kernel, by decide +kernel⟩
theorem tr_feeding : trB T d_feeding.N d_feeding.fuel ⟨d_feeding.scope, fun _ => true⟩ d_feeding.body = some d_feeding.core := some_get (d := CSs.nil) (by decide +kernel)
theorem sc_feeding : FnScope d_feeding.N d_feeding.ps d_feeding.scope := ⟨rfl, rfl, rfl, by decide +kernel, rfl, by decide +kernel, by decide +kernel⟩
theorem tr_is_path : trB T d_is_path.N d_is_path.fuel ⟨d_is_path.scope, fun _ => true⟩ d_is_path.body = some d_is_path.core := some_get (d := CSs.nil) (by decide +kernel)
theorem sc_is_path : FnScope d_is_path.N d_is_path.ps d_is_path.scope := ⟨rfl, rfl, rfl, by decide +kernel, rfl, by decide +kernel, by decide +kernel⟩
theorem tr_need_path : trB T d_need_path.N d_need_path.fuel ⟨d_need_path.scope, fun _ => true⟩ d_need_path.body = some d_need_path.core := some_get (d := CSs.nil) (by decide +kernel)
theorem sc_need_path : FnScope d_need_path.N d_need_path.ps d_need_path.scope := ⟨rfl, rfl, rfl, by decide +kernel, rfl, by decide +kernel, by decide +kernel⟩
theorem tr_are_skews : trB T d_are_skews.N d_are_skews.fuel ⟨d_are_skews.scope, fun _ => true⟩ d_are_skews.body = some d_are_skews.core := some_get (d := CSs.nil) (by decide +kernel)
theorem sc_are_skews : FnScope d_are_skews.N d_are_skews.ps d_are_skews.scope := ⟨rfl, rfl, rfl, by decide +kernel, rfl, by decide +kernel, by decide +kernel⟩
theorem tr_is_clock : trB T d_is_clock.N d_is_clock.fuel ⟨d_is_clock.scope, fun _ => true⟩ d_is_clock.body = some d_is_clock.core := some_get (d := CSs.nil) (by decide +kernel)
theorem sc_is_clock : FnScope d_is_clock.N d_is_clock.ps d_is_clock.scope := ⟨rfl, rfl, rfl, by decide +kernel, rfl, by decide +kernel, by decide +kernel⟩
theorem tr_need_clock : trB T d_need_clock.N d_need_clock.fuel ⟨d_need_clock.scope, fun _ => true⟩ d_need_clock.body = some d_need_clock.core := some_get (d := CSs.nil) (by decide +kernel)
theorem sc_need_clock : FnScope d_need_clock.N d_need_clock.ps d_need_clock.scope := ⟨rfl, rfl, rfl, by decide +kernel, rfl, by decide +kernel, by decide +kernel⟩
theorem tr_is_corner : trB T d_is_corner.N d_is_corner.fuel ⟨d_is_corner.scope, fun _ => true⟩ d_is_corner.body = some d_is_corner.core := some_get (d := CSs.nil) (by decide +kernel)
theorem sc_is_corner : FnScope d_is_corner.N d_is_corner.ps d_is_corner.scope := ⟨rfl, rfl, rfl, by decide +kernel, rfl, by decide +kernel, by decide +kernel⟩
theorem tr_need_corner : trB T d_need_corner.N d_need_corner.fuel ⟨d_need_corner.scope, fun _ => true⟩ d_need_corner.body = some d_need_corner.core := some_get (d := CSs.nil) (by decide +kernel)
theorem sc_need_corner : FnScope d_need_corner.N d_need_corner.ps d_need_corner.scope := ⟨rfl, rfl, rfl, by decide +kernel, rfl, by decide +kernel, by decide +kernel⟩
theorem tr_fits_end : trB T d_fits_end.N d_fits_end.fuel ⟨d_fits_end.scope, fun _ => true⟩ d_fits_end.body = some d_fits_end.core := some_get (d := CSs.nil) (by decide +kernel)
theorem sc_fits_end : FnScope d_fits_end.N d_fits_end.ps d_fits_end.scope := ⟨rfl, rfl, rfl, by decide +kernel, rfl, by decide +kernel, by decide +kernel⟩
theorem tr_sums_along : trB T d_sums_along.N d_sums_along.fuel ⟨d_sums_along.scope, fun _ => true⟩ d_sums_along.body = some d_sums_along.core := some_get (d := CSs.nil) (by decide +kernel)
theorem sc_sums_along : FnScope d_sums_along.N d_sums_along.ps d_sums_along.scope := ⟨rfl, rfl, rfl, by decide +kernel, rfl, by decide +kernel, by decide +kernel⟩
theorem tr_delays_of : trB T d_delays_of.N d_delays_of.fuel ⟨d_delays_of.scope, fun _ => true⟩ d_delays_of.body = some d_delays_of.core := some_get (d := CSs.nil) (by decide +kernel)
theorem sc_delays_of : FnScope d_delays_of.N d_delays_of.ps d_delays_of.scope := ⟨rfl, rfl, rfl, by decide +kernel, rfl, by decide +kernel, by decide +kernel⟩
theorem tr_slack_by : trB T d_slack_by.N d_slack_by.fuel ⟨d_slack_by.scope, fun _ => true⟩ d_slack_by.body = some d_slack_by.core := some_get (d := CSs.nil) (by decide +kernel)
theorem sc_slack_by : FnScope d_slack_by.N d_slack_by.ps d_slack_by.scope := ⟨rfl, rfl, rfl, by decide +kernel, rfl, by decide +kernel, by decide +kernel⟩
theorem tr_slack_along : trB T d_slack_along.N d_slack_along.fuel ⟨d_slack_along.scope, fun _ => true⟩ d_slack_along.body = some d_slack_along.core := some_get (d := CSs.nil) (by decide +kernel)
theorem sc_slack_along : FnScope d_slack_along.N d_slack_along.ps d_slack_along.scope := ⟨rfl, rfl, rfl, by decide +kernel, rfl, by decide +kernel, by decide +kernel⟩
theorem tr__law_begin : trB T d__law_begin.N d__law_begin.fuel ⟨d__law_begin.scope, fun _ => true⟩ d__law_begin.body = some d__law_begin.core := some_get (d := CSs.nil) (by decide +kernel)
theorem sc__law_begin : FnScope d__law_begin.N d__law_begin.ps d__law_begin.scope := ⟨rfl, rfl, rfl, by decide +kernel, rfl, by decide +kernel, by decide +kernel⟩
theorem tr__law_mixed : trB T d__law_mixed.N d__law_mixed.fuel ⟨d__law_mixed.scope, fun _ => true⟩ d__law_mixed.body = some d__law_mixed.core := some_get (d := CSs.nil) (by decide +kernel)
theorem sc__law_mixed : FnScope d__law_mixed.N d__law_mixed.ps d__law_mixed.scope := ⟨rfl, rfl, rfl, by decide +kernel, rfl, by decide +kernel, by decide +kernel⟩
theorem tr__law_next : trB T d__law_next.N d__law_next.fuel ⟨d__law_next.scope, fun _ => true⟩ d__law_next.body = some d__law_next.core := some_get (d := CSs.nil) (by decide +kernel)
theorem sc__law_next : FnScope d__law_next.N d__law_next.ps d__law_next.scope := ⟨rfl, rfl, rfl, by decide +kernel, rfl, by decide +kernel, by decide +kernel⟩
theorem tr__law_names : trB T d__law_names.N d__law_names.fuel ⟨d__law_names.scope, fun _ => true⟩ d__law_names.body = some d__law_names.core := some_get (d := CSs.nil) (by decide +kernel)
theorem sc__law_names : FnScope d__law_names.N d__law_names.ps d__law_names.scope := ⟨rfl, rfl, rfl, by decide +kernel, rfl, by decide +kernel, by decide +kernel⟩
theorem tr__law_picked : trB T d__law_picked.N d__law_picked.fuel ⟨d__law_picked.scope, fun _ => true⟩ d__law_picked.body = some d__law_picked.core := some_get (d := CSs.nil) (by decide +kernel)
theorem sc__law_picked : FnScope d__law_picked.N d__law_picked.ps d__law_picked.scope := ⟨rfl, rfl, rfl, by decide +kernel, rfl, by decide +kernel, by decide +kernel⟩
theorem tr__law_delays : trB T d__law_delays.N d__law_delays.fuel ⟨d__law_delays.scope, fun _ => true⟩ d__law_delays.body = some d__law_delays.core := some_get (d := CSs.nil) (by decide +kernel)
theorem sc__law_delays : FnScope d__law_delays.N d__law_delays.ps d__law_delays.scope := ⟨rfl, rfl, rfl, by decide +kernel, rfl, by decide +kernel, by decide +kernel⟩
theorem tr__law_gate : trB T d__law_gate.N d__law_gate.fuel ⟨d__law_gate.scope, fun _ => true⟩ d__law_gate.body = some d__law_gate.core := some_get (d := CSs.nil) (by decide +kernel)
theorem sc__law_gate : FnScope d__law_gate.N d__law_gate.ps d__law_gate.scope := ⟨rfl, rfl, rfl, by decide +kernel, rfl, by decide +kernel, by decide +kernel⟩
theorem tr__law_many : trB T d__law_many.N d__law_many.fuel ⟨d__law_many.scope, fun _ => true⟩ d__law_many.body = some d__law_many.core := some_get (d := CSs.nil) (by decide +kernel)
theorem sc__law_many : FnScope d__law_many.N d__law_many.ps d__law_many.scope := ⟨rfl, rfl, rfl, by decide +kernel, rfl, by decide +kernel, by decide +kernel⟩
theorem tr__law_register : trB T d__law_register.N d__law_register.fuel ⟨d__law_register.scope, fun _ => true⟩ d__law_register.body = some d__law_register.core := some_get (d := CSs.nil) (by decide +kernel)
theorem sc__law_register : FnScope d__law_register.N d__law_register.ps d__law_register.scope := ⟨rfl, rfl, rfl, by decide +kernel, rfl, by decide +kernel, by decide +kernel⟩
theorem tr__law_netlist : trB T d__law_netlist.N d__law_netlist.fuel ⟨d__law_netlist.scope, fun _ => true⟩ d__law_netlist.body = some d__law_netlist.core := some_get (d := CSs.nil) (by decide +kernel)
theorem sc__law_netlist : FnScope d__law_netlist.N d__law_netlist.ps d__law_netlist.scope := ⟨rfl, rfl, rfl, by decide +kernel, rfl, by decide +kernel, by decide +kernel⟩
theorem tr__law_clock : trB T d__law_clock.N d__law_clock.fuel ⟨d__law_clock.scope, fun _ => true⟩ d__law_clock.body = some d__law_clock.core := some_get (d := CSs.nil) (by decide +kernel)
theorem sc__law_clock : FnScope d__law_clock.N d__law_clock.ps d__law_clock.scope := ⟨rfl, rfl, rfl, by decide +kernel, rfl, by decide +kernel, by decide +kernel⟩
theorem tr__law_ways : trB T d__law_ways.N d__law_ways.fuel ⟨d__law_ways.scope, fun _ => true⟩ d__law_ways.body = some d__law_ways.core := some_get (d := CSs.nil) (by decide +kernel)
theorem sc__law_ways : FnScope d__law_ways.N d__law_ways.ps d__law_ways.scope := ⟨rfl, rfl, rfl, by decide +kernel, rfl, by decide +kernel, by decide +kernel⟩
theorem tr__law_sums : trB T d__law_sums.N d__law_sums.fuel ⟨d__law_sums.scope, fun _ => true⟩ d__law_sums.body = some d__law_sums.core := some_get (d := CSs.nil) (by decide +kernel)
theorem sc__law_sums : FnScope d__law_sums.N d__law_sums.ps d__law_sums.scope := ⟨rfl, rfl, rfl, by decide +kernel, rfl, by decide +kernel, by decide +kernel⟩
theorem tr__law_slack : trB T d__law_slack.N d__law_slack.fuel ⟨d__law_slack.scope, fun _ => true⟩ d__law_slack.body = some d__law_slack.core := some_get (d := CSs.nil) (by decide +kernel)
theorem sc__law_slack : FnScope d__law_slack.N d__law_slack.ps d__law_slack.scope := ⟨rfl, rfl, rfl, by decide +kernel, rfl, by decide +kernel, by decide +kernel⟩
theorem tr__law_corners : trB T d__law_corners.N d__law_corners.fuel ⟨d__law_corners.scope, fun _ => true⟩ d__law_corners.body = some d__law_corners.core := some_get (d := CSs.nil) (by decide +kernel)
theorem sc__law_corners : FnScope d__law_corners.N d__law_corners.ps d__law_corners.scope := ⟨rfl, rfl, rfl, by decide +kernel, rfl, by decide +kernel, by decide +kernel⟩
theorem tr__law_checks : trB T d__law_checks.N d__law_checks.fuel ⟨d__law_checks.scope, fun _ => true⟩ d__law_checks.body = some d__law_checks.core := some_get (d := CSs.nil) (by decide +kernel)
theorem sc__law_checks : FnScope d__law_checks.N d__law_checks.ps d__law_checks.scope := ⟨rfl, rfl, rfl, by decide +kernel, rfl, by decide +kernel, by decide +kernel⟩
theorem tr__law_way_right : trB T d__law_way_right.N d__law_way_right.fuel ⟨d__law_way_right.scope, fun _ => true⟩ d__law_way_right.body = some d__law_way_right.core := some_get (d := CSs.nil) (by decide +kernel)
theorem sc__law_way_right : FnScope d__law_way_right.N d__law_way_right.ps d__law_way_right.scope := ⟨rfl, rfl, rfl, by decide +kernel, rfl, by decide +kernel, by decide +kernel⟩
theorem tr_law : trB T d_law.N d_law.fuel ⟨d_law.scope, fun _ => true⟩ d_law.body = some d_law.core := some_get (d := CSs.nil) (by decide +kernel)
theorem sc_law : FnScope d_law.N d_law.ps d_law.scope := ⟨rfl, rfl, rfl, by decide +kernel, rfl, by decide +kernel, by decide +kernel⟩
section
variable {K : PySem.W.Frag} {mg : Str → Option Value}
/-- a def stands -/
abbrev At (K : PySem.W.Frag) (mg : Str → Option Value) (d : Def) (dvs : List V) (kws : List (Str × V)) : Prop := ∃ fa fd, FunD K d.name d.qual d.params d.body d.scope dvs kws fa fd ∧ mg d.name = some (.ref fa)
def BindAt (K : PySem.W.Frag) (mg : Str → Option Value) (p : Str × Nat × List Str) : Prop := ∀ g ps, T.sig.lookup p.1 = some g → permOf g p.2.1 p.2.2 = some ps → ∃ d ∈ ds, d.name = p.1 ∧ ∃ (dvs : List V) (kws : List (Str × V)) (fa : Addr) (fd : FuncData) (gg : List Value → List Value → List Value) (gV : List V → List V → List V),
    FunD K d.name d.qual d.params d.body d.scope dvs kws fa fd ∧ mg d.name = some (.ref fa) ∧ KBn K fd d.ps p.2.1 p.2.2 gg gV ∧ ∀ vs zs, vs.length = p.2.1 → zs.length = p.2.2.length → gV vs zs = permV ps (vs ++ zs) ∧ (gV vs zs).length = d.ps.length
theorem b_0 (h : At K mg d_is_whole [] [("least", V.int (0)), ("most", V.int (999))]) : BindAt K mg ("is_whole", 1, ["most"]) := by
  obtain ⟨fa, fd, F, at_⟩ := h
  intro g ps e1 e2
  have e : (T.sig.lookup ("is_whole" : Str)).bind (fun g => permOf g 1 ["most"]) = some ([.pos 0, .dfl (PyData.int (0)), .pos 1] : List GS.PA) := by rfl
  rw [e1] at e
  cases e2.symm.trans e
  obtain ⟨mv, kb⟩ := kb_kwd (n := 1) (ks := ["most"]) (ps := d_is_whole.ps) (g := fun us mv ws => [us.getD 0 .none, mv.getD 0 .none, ws.getD 0 .none]) (gV := fun vs ds zs => [vs.getD 0 .non, ds.getD 0 .non, zs.getD 0 .non]) ([("least", V.int (0))] : List (Str × V)) F (by simp) (by simp) (fun r rm rz => .cons (gd_rel r 0) (.cons (gd_rel rm 0) (.cons (gd_rel rz 0) (.nil)))) fun D doc pm an cdv ct us mv ws l1 l2 l3 =>
    match us, mv, ws, l1, l2, l3 with
    | [u0], [m0], [w0], _, _, _ => ⟨_, _, _, _, _, _, rfl, rfl, rfl⟩
  exact ⟨d_is_whole, by simp [ds], rfl, _, _, fa, fd, _, _, F, at_, kb, fun vs zs l1 l2 => match vs, zs, l1, l2 with | [v0], [z0], _, _ => ⟨rfl, rfl⟩⟩
theorem b_1 (h : At K mg d_need_path [] []) : BindAt K mg ("need_path", 2, []) := by
  obtain ⟨fa, fd, F, at_⟩ := h
  intro g ps e1 e2
  have e : (T.sig.lookup ("need_path" : Str)).bind (fun g => permOf g 2 []) = some ([.pos 0, .pos 1] : List GS.PA) := by rfl
  rw [e1] at e
  cases e2.symm.trans e
  have kb : KBn K fd d_need_path.ps 2 [] (fun us ws => [us.getD 0 .none, us.getD 1 .none]) (fun vs zs => [vs.getD 0 .non, vs.getD 1 .non]) := kb_plain F (fun r rz => .cons (gd_rel r 0) (.cons (gd_rel r 1) (.nil))) fun dV kV doc pm an cdv ct us ws l1 l2 hd => by
    cases hd rfl
    match us, ws, l1, l2 with
    | [u0, u1], [], _, _ => rfl
  exact ⟨d_need_path, by simp [ds], rfl, _, _, fa, fd, _, _, F, at_, kb, fun vs zs l1 l2 => match vs, zs, l1, l2 with | [v0, v1], [], _, _ => ⟨rfl, rfl⟩⟩
theorem b_2 (h : At K mg d_need_corner [] []) : BindAt K mg ("need_corner", 2, []) := by
  obtain ⟨fa, fd, F, at_⟩ := h
  intro g ps e1 e2
  have e : (T.sig.lookup ("need_corner" : Str)).bind (fun g => permOf g 2 []) = some ([.pos 0, .pos 1] : List GS.PA) := by rfl
  rw [e1] at e
  cases e2.symm.trans e
  have kb : KBn K fd d_need_corner.ps 2 [] (fun us ws => [us.getD 0 .none, us.getD 1 .none]) (fun vs zs => [vs.getD 0 .non, vs.getD 1 .non]) := kb_plain F (fun r rz => .cons (gd_rel r 0) (.cons (gd_rel r 1) (.nil))) fun dV kV doc pm an cdv ct us ws l1 l2 hd => by
    cases hd rfl
    match us, ws, l1, l2 with
    | [u0, u1], [], _, _ => rfl
  exact ⟨d_need_corner, by simp [ds], rfl, _, _, fa, fd, _, _, F, at_, kb, fun vs zs l1 l2 => match vs, zs, l1, l2 with | [v0, v1], [], _, _ => ⟨rfl, rfl⟩⟩
theorem b_3 (h : At K mg d_sums_along [] []) : BindAt K mg ("sums_along", 3, []) := by
  obtain ⟨fa, fd, F, at_⟩ := h
  intro g ps e1 e2
  have e : (T.sig.lookup ("sums_along" : Str)).bind (fun g => permOf g 3 []) = some ([.pos 0, .pos 1, .pos 2] : List GS.PA) := by rfl
  rw [e1] at e
  cases e2.symm.trans e
  have kb : KBn K fd d_sums_along.ps 3 [] (fun us ws => [us.getD 0 .none, us.getD 1 .none, us.getD 2 .none]) (fun vs zs => [vs.getD 0 .non, vs.getD 1 .non, vs.getD 2 .non]) := kb_plain F (fun r rz => .cons (gd_rel r 0) (.cons (gd_rel r 1) (.cons (gd_rel r 2) (.nil)))) fun dV kV doc pm an cdv ct us ws l1 l2 hd => by
    cases hd rfl
    match us, ws, l1, l2 with
    | [u0, u1, u2], [], _, _ => rfl
  exact ⟨d_sums_along, by simp [ds], rfl, _, _, fa, fd, _, _, F, at_, kb, fun vs zs l1 l2 => match vs, zs, l1, l2 with | [v0, v1, v2], [], _, _ => ⟨rfl, rfl⟩⟩
theorem b_4 (h : At K mg d_need_clock [] []) : BindAt K mg ("need_clock", 2, []) := by
  obtain ⟨fa, fd, F, at_⟩ := h
  intro g ps e1 e2
  have e : (T.sig.lookup ("need_clock" : Str)).bind (fun g => permOf g 2 []) = some ([.pos 0, .pos 1] : List GS.PA) := by rfl
  rw [e1] at e
  cases e2.symm.trans e
  have kb : KBn K fd d_need_clock.ps 2 [] (fun us ws => [us.getD 0 .none, us.getD 1 .none]) (fun vs zs => [vs.getD 0 .non, vs.getD 1 .non]) := kb_plain F (fun r rz => .cons (gd_rel r 0) (.cons (gd_rel r 1) (.nil))) fun dV kV doc pm an cdv ct us ws l1 l2 hd => by
    cases hd rfl
    match us, ws, l1, l2 with
    | [u0, u1], [], _, _ => rfl
  exact ⟨d_need_clock, by simp [ds], rfl, _, _, fa, fd, _, _, F, at_, kb, fun vs zs l1 l2 => match vs, zs, l1, l2 with | [v0, v1], [], _, _ => ⟨rfl, rfl⟩⟩
theorem b_5 (h : At K mg d_slack_by [] []) : BindAt K mg ("slack_by", 5, []) := by
  obtain ⟨fa, fd, F, at_⟩ := h
  intro g ps e1 e2
  have e : (T.sig.lookup ("slack_by" : Str)).bind (fun g => permOf g 5 []) = some ([.pos 0, .pos 1, .pos 2, .pos 3, .pos 4] : List GS.PA) := by rfl
  rw [e1] at e
  cases e2.symm.trans e
  have kb : KBn K fd d_slack_by.ps 5 [] (fun us ws => [us.getD 0 .none, us.getD 1 .none, us.getD 2 .none, us.getD 3 .none, us.getD 4 .none]) (fun vs zs => [vs.getD 0 .non, vs.getD 1 .non, vs.getD 2 .non, vs.getD 3 .non, vs.getD 4 .non]) := kb_plain F (fun r rz => .cons (gd_rel r 0) (.cons (gd_rel r 1) (.cons (gd_rel r 2) (.cons (gd_rel r 3) (.cons (gd_rel r 4) (.nil)))))) fun dV kV doc pm an cdv ct us ws l1 l2 hd => by
    cases hd rfl
    match us, ws, l1, l2 with
    | [u0, u1, u2, u3, u4], [], _, _ => rfl
  exact ⟨d_slack_by, by simp [ds], rfl, _, _, fa, fd, _, _, F, at_, kb, fun vs zs l1 l2 => match vs, zs, l1, l2 with | [v0, v1, v2, v3, v4], [], _, _ => ⟨rfl, rfl⟩⟩
theorem b_6 (h : At K mg d__law_picked [] []) : BindAt K mg ("_law_picked", 3, []) := by
  obtain ⟨fa, fd, F, at_⟩ := h
  intro g ps e1 e2
  have e : (T.sig.lookup ("_law_picked" : Str)).bind (fun g => permOf g 3 []) = some ([.io 0, .pos 1, .pos 2] : List GS.PA) := by rfl
  rw [e1] at e
  cases e2.symm.trans e
  have kb : KBn K fd d__law_picked.ps 3 [] (fun us ws => [us.getD 0 .none, us.getD 1 .none, us.getD 2 .none]) (fun vs zs => [vs.getD 0 .non, vs.getD 1 .non, vs.getD 2 .non]) := kb_plain F (fun r rz => .cons (gd_rel r 0) (.cons (gd_rel r 1) (.cons (gd_rel r 2) (.nil)))) fun dV kV doc pm an cdv ct us ws l1 l2 hd => by
    cases hd rfl
    match us, ws, l1, l2 with
    | [u0, u1, u2], [], _, _ => rfl
  exact ⟨d__law_picked, by simp [ds], rfl, _, _, fa, fd, _, _, F, at_, kb, fun vs zs l1 l2 => match vs, zs, l1, l2 with | [v0, v1, v2], [], _, _ => ⟨rfl, rfl⟩⟩
theorem b_7 (h : At K mg d__law_names [] []) : BindAt K mg ("_law_names", 2, []) := by
  obtain ⟨fa, fd, F, at_⟩ := h
  intro g ps e1 e2
  have e : (T.sig.lookup ("_law_names" : Str)).bind (fun g => permOf g 2 []) = some ([.io 0, .pos 1] : List GS.PA) := by rfl
  rw [e1] at e
  cases e2.symm.trans e
  have kb : KBn K fd d__law_names.ps 2 [] (fun us ws => [us.getD 0 .none, us.getD 1 .none]) (fun vs zs => [vs.getD 0 .non, vs.getD 1 .non]) := kb_plain F (fun r rz => .cons (gd_rel r 0) (.cons (gd_rel r 1) (.nil))) fun dV kV doc pm an cdv ct us ws l1 l2 hd => by
    cases hd rfl
    match us, ws, l1, l2 with
    | [u0, u1], [], _, _ => rfl
  exact ⟨d__law_names, by simp [ds], rfl, _, _, fa, fd, _, _, F, at_, kb, fun vs zs l1 l2 => match vs, zs, l1, l2 with | [v0, v1], [], _, _ => ⟨rfl, rfl⟩⟩
theorem b_8 (h : At K mg d__law_sums [] []) : BindAt K mg ("_law_sums", 3, []) := by
  obtain ⟨fa, fd, F, at_⟩ := h
  intro g ps e1 e2
  have e : (T.sig.lookup ("_law_sums" : Str)).bind (fun g => permOf g 3 []) = some ([.pos 0, .pos 1, .pos 2] : List GS.PA) := by rfl
  rw [e1] at e
  cases e2.symm.trans e
  have kb : KBn K fd d__law_sums.ps 3 [] (fun us ws => [us.getD 0 .none, us.getD 1 .none, us.getD 2 .none]) (fun vs zs => [vs.getD 0 .non, vs.getD 1 .non, vs.getD 2 .non]) := kb_plain F (fun r rz => .cons (gd_rel r 0) (.cons (gd_rel r 1) (.cons (gd_rel r 2) (.nil)))) fun dV kV doc pm an cdv ct us ws l1 l2 hd => by
    cases hd rfl
    match us, ws, l1, l2 with
    | [u0, u1, u2], [], _, _ => rfl
  exact ⟨d__law_sums, by simp [ds], rfl, _, _, fa, fd, _, _, F, at_, kb, fun vs zs l1 l2 => match vs, zs, l1, l2 with | [v0, v1, v2], [], _, _ => ⟨rfl, rfl⟩⟩
theorem b_9 (h : At K mg d__law_begin [] []) : BindAt K mg ("_law_begin", 1, []) := by
  obtain ⟨fa, fd, F, at_⟩ := h
  intro g ps e1 e2
  have e : (T.sig.lookup ("_law_begin" : Str)).bind (fun g => permOf g 1 []) = some ([.pos 0] : List GS.PA) := by rfl
  rw [e1] at e
  cases e2.symm.trans e
  have kb : KBn K fd d__law_begin.ps 1 [] (fun us ws => [us.getD 0 .none]) (fun vs zs => [vs.getD 0 .non]) := kb_plain F (fun r rz => .cons (gd_rel r 0) (.nil)) fun dV kV doc pm an cdv ct us ws l1 l2 hd => by
    cases hd rfl
    match us, ws, l1, l2 with
    | [u0], [], _, _ => rfl
  exact ⟨d__law_begin, by simp [ds], rfl, _, _, fa, fd, _, _, F, at_, kb, fun vs zs l1 l2 => match vs, zs, l1, l2 with | [v0], [], _, _ => ⟨rfl, rfl⟩⟩
theorem b_10 (h : At K mg d_is_path [] []) : BindAt K mg ("is_path", 2, []) := by
  obtain ⟨fa, fd, F, at_⟩ := h
  intro g ps e1 e2
  have e : (T.sig.lookup ("is_path" : Str)).bind (fun g => permOf g 2 []) = some ([.pos 0, .pos 1] : List GS.PA) := by rfl
  rw [e1] at e
  cases e2.symm.trans e
  have kb : KBn K fd d_is_path.ps 2 [] (fun us ws => [us.getD 0 .none, us.getD 1 .none]) (fun vs zs => [vs.getD 0 .non, vs.getD 1 .non]) := kb_plain F (fun r rz => .cons (gd_rel r 0) (.cons (gd_rel r 1) (.nil))) fun dV kV doc pm an cdv ct us ws l1 l2 hd => by
    cases hd rfl
    match us, ws, l1, l2 with
    | [u0, u1], [], _, _ => rfl
  exact ⟨d_is_path, by simp [ds], rfl, _, _, fa, fd, _, _, F, at_, kb, fun vs zs l1 l2 => match vs, zs, l1, l2 with | [v0, v1], [], _, _ => ⟨rfl, rfl⟩⟩
theorem b_11 (h : At K mg d_is_whole [] [("least", V.int (0)), ("most", V.int (999))]) : BindAt K mg ("is_whole", 1, ["least", "most"]) := by
  obtain ⟨fa, fd, F, at_⟩ := h
  intro g ps e1 e2
  have e : (T.sig.lookup ("is_whole" : Str)).bind (fun g => permOf g 1 ["least", "most"]) = some ([.pos 0, .pos 1, .pos 2] : List GS.PA) := by rfl
  rw [e1] at e
  cases e2.symm.trans e
  have kb : KBn K fd d_is_whole.ps 1 ["least", "most"] (fun us ws => [us.getD 0 .none, ws.getD 0 .none, ws.getD 1 .none]) (fun vs zs => [vs.getD 0 .non, zs.getD 0 .non, zs.getD 1 .non]) := kb_plain F (fun r rz => .cons (gd_rel r 0) (.cons (gd_rel rz 0) (.cons (gd_rel rz 1) (.nil)))) fun dV kV doc pm an cdv ct us ws l1 l2 hd => by
    cases hd rfl
    match us, ws, l1, l2 with
    | [u0], [w0, w1], _, _ => rfl
  exact ⟨d_is_whole, by simp [ds], rfl, _, _, fa, fd, _, _, F, at_, kb, fun vs zs l1 l2 => match vs, zs, l1, l2 with | [v0], [z0, z1], _, _ => ⟨rfl, rfl⟩⟩
theorem b_12 (h : At K mg d_are_skews [] []) : BindAt K mg ("are_skews", 2, []) := by
  obtain ⟨fa, fd, F, at_⟩ := h
  intro g ps e1 e2
  have e : (T.sig.lookup ("are_skews" : Str)).bind (fun g => permOf g 2 []) = some ([.pos 0, .pos 1] : List GS.PA) := by rfl
  rw [e1] at e
  cases e2.symm.trans e
  have kb : KBn K fd d_are_skews.ps 2 [] (fun us ws => [us.getD 0 .none, us.getD 1 .none]) (fun vs zs => [vs.getD 0 .non, vs.getD 1 .non]) := kb_plain F (fun r rz => .cons (gd_rel r 0) (.cons (gd_rel r 1) (.nil))) fun dV kV doc pm an cdv ct us ws l1 l2 hd => by
    cases hd rfl
    match us, ws, l1, l2 with
    | [u0, u1], [], _, _ => rfl
  exact ⟨d_are_skews, by simp [ds], rfl, _, _, fa, fd, _, _, F, at_, kb, fun vs zs l1 l2 => match vs, zs, l1, l2 with | [v0, v1], [], _, _ => ⟨rfl, rfl⟩⟩
theorem b_13 (h : At K mg d_is_clock [] []) : BindAt K mg ("is_clock", 2, []) := by
  obtain ⟨fa, fd, F, at_⟩ := h
  intro g ps e1 e2
  have e : (T.sig.lookup ("is_clock" : Str)).bind (fun g => permOf g 2 []) = some ([.pos 0, .pos 1] : List GS.PA) := by rfl
  rw [e1] at e
  cases e2.symm.trans e
  have kb : KBn K fd d_is_clock.ps 2 [] (fun us ws => [us.getD 0 .none, us.getD 1 .none]) (fun vs zs => [vs.getD 0 .non, vs.getD 1 .non]) := kb_plain F (fun r rz => .cons (gd_rel r 0) (.cons (gd_rel r 1) (.nil))) fun dV kV doc pm an cdv ct us ws l1 l2 hd => by
    cases hd rfl
    match us, ws, l1, l2 with
    | [u0, u1], [], _, _ => rfl
  exact ⟨d_is_clock, by simp [ds], rfl, _, _, fa, fd, _, _, F, at_, kb, fun vs zs l1 l2 => match vs, zs, l1, l2 with | [v0, v1], [], _, _ => ⟨rfl, rfl⟩⟩
theorem b_14 (h : At K mg d_is_corner [] []) : BindAt K mg ("is_corner", 2, []) := by
  obtain ⟨fa, fd, F, at_⟩ := h
  intro g ps e1 e2
  have e : (T.sig.lookup ("is_corner" : Str)).bind (fun g => permOf g 2 []) = some ([.pos 0, .pos 1] : List GS.PA) := by rfl
  rw [e1] at e
  cases e2.symm.trans e
  have kb : KBn K fd d_is_corner.ps 2 [] (fun us ws => [us.getD 0 .none, us.getD 1 .none]) (fun vs zs => [vs.getD 0 .non, vs.getD 1 .non]) := kb_plain F (fun r rz => .cons (gd_rel r 0) (.cons (gd_rel r 1) (.nil))) fun dV kV doc pm an cdv ct us ws l1 l2 hd => by
    cases hd rfl
    match us, ws, l1, l2 with
    | [u0, u1], [], _, _ => rfl
  exact ⟨d_is_corner, by simp [ds], rfl, _, _, fa, fd, _, _, F, at_, kb, fun vs zs l1 l2 => match vs, zs, l1, l2 with | [v0, v1], [], _, _ => ⟨rfl, rfl⟩⟩
theorem b_15 (h : At K mg d_fits_end [] []) : BindAt K mg ("fits_end", 3, []) := by
  obtain ⟨fa, fd, F, at_⟩ := h
  intro g ps e1 e2
  have e : (T.sig.lookup ("fits_end" : Str)).bind (fun g => permOf g 3 []) = some ([.pos 0, .pos 1, .pos 2] : List GS.PA) := by rfl
  rw [e1] at e
  cases e2.symm.trans e
  have kb : KBn K fd d_fits_end.ps 3 [] (fun us ws => [us.getD 0 .none, us.getD 1 .none, us.getD 2 .none]) (fun vs zs => [vs.getD 0 .non, vs.getD 1 .non, vs.getD 2 .non]) := kb_plain F (fun r rz => .cons (gd_rel r 0) (.cons (gd_rel r 1) (.cons (gd_rel r 2) (.nil)))) fun dV kV doc pm an cdv ct us ws l1 l2 hd => by
    cases hd rfl
    match us, ws, l1, l2 with
    | [u0, u1, u2], [], _, _ => rfl
  exact ⟨d_fits_end, by simp [ds], rfl, _, _, fa, fd, _, _, F, at_, kb, fun vs zs l1 l2 => match vs, zs, l1, l2 with | [v0, v1, v2], [], _, _ => ⟨rfl, rfl⟩⟩
theorem b_16 (h : At K mg d__law_mixed [] []) : BindAt K mg ("_law_mixed", 2, []) := by
  obtain ⟨fa, fd, F, at_⟩ := h
  intro g ps e1 e2
  have e : (T.sig.lookup ("_law_mixed" : Str)).bind (fun g => permOf g 2 []) = some ([.pos 0, .pos 1] : List GS.PA) := by rfl
  rw [e1] at e
  cases e2.symm.trans e
  have kb : KBn K fd d__law_mixed.ps 2 [] (fun us ws => [us.getD 0 .none, us.getD 1 .none]) (fun vs zs => [vs.getD 0 .non, vs.getD 1 .non]) := kb_plain F (fun r rz => .cons (gd_rel r 0) (.cons (gd_rel r 1) (.nil))) fun dV kV doc pm an cdv ct us ws l1 l2 hd => by
    cases hd rfl
    match us, ws, l1, l2 with
    | [u0, u1], [], _, _ => rfl
  exact ⟨d__law_mixed, by simp [ds], rfl, _, _, fa, fd, _, _, F, at_, kb, fun vs zs l1 l2 => match vs, zs, l1, l2 with | [v0, v1], [], _, _ => ⟨rfl, rfl⟩⟩
theorem b_17 (h : At K mg d__law_next [] []) : BindAt K mg ("_law_next", 2, []) := by
  obtain ⟨fa, fd, F, at_⟩ := h
  intro g ps e1 e2
  have e : (T.sig.lookup ("_law_next" : Str)).bind (fun g => permOf g 2 []) = some ([.io 0, .pos 1] : List GS.PA) := by rfl
  rw [e1] at e
  cases e2.symm.trans e
  have kb : KBn K fd d__law_next.ps 2 [] (fun us ws => [us.getD 0 .none, us.getD 1 .none]) (fun vs zs => [vs.getD 0 .non, vs.getD 1 .non]) := kb_plain F (fun r rz => .cons (gd_rel r 0) (.cons (gd_rel r 1) (.nil))) fun dV kV doc pm an cdv ct us ws l1 l2 hd => by
    cases hd rfl
    match us, ws, l1, l2 with
    | [u0, u1], [], _, _ => rfl
  exact ⟨d__law_next, by simp [ds], rfl, _, _, fa, fd, _, _, F, at_, kb, fun vs zs l1 l2 => match vs, zs, l1, l2 with | [v0, v1], [], _, _ => ⟨rfl, rfl⟩⟩
theorem b_18 (h : At K mg d__law_delays [] []) : BindAt K mg ("_law_delays", 2, []) := by
  obtain ⟨fa, fd, F, at_⟩ := h
  intro g ps e1 e2
  have e : (T.sig.lookup ("_law_delays" : Str)).bind (fun g => permOf g 2 []) = some ([.io 0, .pos 1] : List GS.PA) := by rfl
  rw [e1] at e
  cases e2.symm.trans e
  have kb : KBn K fd d__law_delays.ps 2 [] (fun us ws => [us.getD 0 .none, us.getD 1 .none]) (fun vs zs => [vs.getD 0 .non, vs.getD 1 .non]) := kb_plain F (fun r rz => .cons (gd_rel r 0) (.cons (gd_rel r 1) (.nil))) fun dV kV doc pm an cdv ct us ws l1 l2 hd => by
    cases hd rfl
    match us, ws, l1, l2 with
    | [u0, u1], [], _, _ => rfl
  exact ⟨d__law_delays, by simp [ds], rfl, _, _, fa, fd, _, _, F, at_, kb, fun vs zs l1 l2 => match vs, zs, l1, l2 with | [v0, v1], [], _, _ => ⟨rfl, rfl⟩⟩
theorem b_19 (h : At K mg d__law_register [] []) : BindAt K mg ("_law_register", 3, []) := by
  obtain ⟨fa, fd, F, at_⟩ := h
  intro g ps e1 e2
  have e : (T.sig.lookup ("_law_register" : Str)).bind (fun g => permOf g 3 []) = some ([.io 0, .pos 1, .pos 2] : List GS.PA) := by rfl
  rw [e1] at e
  cases e2.symm.trans e
  have kb : KBn K fd d__law_register.ps 3 [] (fun us ws => [us.getD 0 .none, us.getD 1 .none, us.getD 2 .none]) (fun vs zs => [vs.getD 0 .non, vs.getD 1 .non, vs.getD 2 .non]) := kb_plain F (fun r rz => .cons (gd_rel r 0) (.cons (gd_rel r 1) (.cons (gd_rel r 2) (.nil)))) fun dV kV doc pm an cdv ct us ws l1 l2 hd => by
    cases hd rfl
    match us, ws, l1, l2 with
    | [u0, u1, u2], [], _, _ => rfl
  exact ⟨d__law_register, by simp [ds], rfl, _, _, fa, fd, _, _, F, at_, kb, fun vs zs l1 l2 => match vs, zs, l1, l2 with | [v0, v1, v2], [], _, _ => ⟨rfl, rfl⟩⟩
theorem b_20 (h : At K mg d__law_corners [] []) : BindAt K mg ("_law_corners", 1, []) := by
  obtain ⟨fa, fd, F, at_⟩ := h
  intro g ps e1 e2
  have e : (T.sig.lookup ("_law_corners" : Str)).bind (fun g => permOf g 1 []) = some ([.pos 0] : List GS.PA) := by rfl
  rw [e1] at e
  cases e2.symm.trans e
  have kb : KBn K fd d__law_corners.ps 1 [] (fun us ws => [us.getD 0 .none]) (fun vs zs => [vs.getD 0 .non]) := kb_plain F (fun r rz => .cons (gd_rel r 0) (.nil)) fun dV kV doc pm an cdv ct us ws l1 l2 hd => by
    cases hd rfl
    match us, ws, l1, l2 with
    | [u0], [], _, _ => rfl
  exact ⟨d__law_corners, by simp [ds], rfl, _, _, fa, fd, _, _, F, at_, kb, fun vs zs l1 l2 => match vs, zs, l1, l2 with | [v0], [], _, _ => ⟨rfl, rfl⟩⟩
theorem b_21 (h : At K mg d__law_netlist [] []) : BindAt K mg ("_law_netlist", 2, []) := by
  obtain ⟨fa, fd, F, at_⟩ := h
  intro g ps e1 e2
  have e : (T.sig.lookup ("_law_netlist" : Str)).bind (fun g => permOf g 2 []) = some ([.io 0, .pos 1] : List GS.PA) := by rfl
  rw [e1] at e
  cases e2.symm.trans e
  have kb : KBn K fd d__law_netlist.ps 2 [] (fun us ws => [us.getD 0 .none, us.getD 1 .none]) (fun vs zs => [vs.getD 0 .non, vs.getD 1 .non]) := kb_plain F (fun r rz => .cons (gd_rel r 0) (.cons (gd_rel r 1) (.nil))) fun dV kV doc pm an cdv ct us ws l1 l2 hd => by
    cases hd rfl
    match us, ws, l1, l2 with
    | [u0, u1], [], _, _ => rfl
  exact ⟨d__law_netlist, by simp [ds], rfl, _, _, fa, fd, _, _, F, at_, kb, fun vs zs l1 l2 => match vs, zs, l1, l2 with | [v0, v1], [], _, _ => ⟨rfl, rfl⟩⟩
theorem b_22 (h : At K mg d__law_clock [] []) : BindAt K mg ("_law_clock", 2, []) := by
  obtain ⟨fa, fd, F, at_⟩ := h
  intro g ps e1 e2
  have e : (T.sig.lookup ("_law_clock" : Str)).bind (fun g => permOf g 2 []) = some ([.io 0, .pos 1] : List GS.PA) := by rfl
  rw [e1] at e
  cases e2.symm.trans e
  have kb : KBn K fd d__law_clock.ps 2 [] (fun us ws => [us.getD 0 .none, us.getD 1 .none]) (fun vs zs => [vs.getD 0 .non, vs.getD 1 .non]) := kb_plain F (fun r rz => .cons (gd_rel r 0) (.cons (gd_rel r 1) (.nil))) fun dV kV doc pm an cdv ct us ws l1 l2 hd => by
    cases hd rfl
    match us, ws, l1, l2 with
    | [u0, u1], [], _, _ => rfl
  exact ⟨d__law_clock, by simp [ds], rfl, _, _, fa, fd, _, _, F, at_, kb, fun vs zs l1 l2 => match vs, zs, l1, l2 with | [v0, v1], [], _, _ => ⟨rfl, rfl⟩⟩
theorem b_23 (h : At K mg d_starts_of [] []) : BindAt K mg ("starts_of", 1, []) := by
  obtain ⟨fa, fd, F, at_⟩ := h
  intro g ps e1 e2
  have e : (T.sig.lookup ("starts_of" : Str)).bind (fun g => permOf g 1 []) = some ([.pos 0] : List GS.PA) := by rfl
  rw [e1] at e
  cases e2.symm.trans e
  have kb : KBn K fd d_starts_of.ps 1 [] (fun us ws => [us.getD 0 .none]) (fun vs zs => [vs.getD 0 .non]) := kb_plain F (fun r rz => .cons (gd_rel r 0) (.nil)) fun dV kV doc pm an cdv ct us ws l1 l2 hd => by
    cases hd rfl
    match us, ws, l1, l2 with
    | [u0], [], _, _ => rfl
  exact ⟨d_starts_of, by simp [ds], rfl, _, _, fa, fd, _, _, F, at_, kb, fun vs zs l1 l2 => match vs, zs, l1, l2 with | [v0], [], _, _ => ⟨rfl, rfl⟩⟩
theorem b_24 (h : At K mg d_ends_of [] []) : BindAt K mg ("ends_of", 1, []) := by
  obtain ⟨fa, fd, F, at_⟩ := h
  intro g ps e1 e2
  have e : (T.sig.lookup ("ends_of" : Str)).bind (fun g => permOf g 1 []) = some ([.pos 0] : List GS.PA) := by rfl
  rw [e1] at e
  cases e2.symm.trans e
  have kb : KBn K fd d_ends_of.ps 1 [] (fun us ws => [us.getD 0 .none]) (fun vs zs => [vs.getD 0 .non]) := kb_plain F (fun r rz => .cons (gd_rel r 0) (.nil)) fun dV kV doc pm an cdv ct us ws l1 l2 hd => by
    cases hd rfl
    match us, ws, l1, l2 with
    | [u0], [], _, _ => rfl
  exact ⟨d_ends_of, by simp [ds], rfl, _, _, fa, fd, _, _, F, at_, kb, fun vs zs l1 l2 => match vs, zs, l1, l2 with | [v0], [], _, _ => ⟨rfl, rfl⟩⟩
theorem b_25 (h : At K mg d_feeding [] []) : BindAt K mg ("feeding", 1, []) := by
  obtain ⟨fa, fd, F, at_⟩ := h
  intro g ps e1 e2
  have e : (T.sig.lookup ("feeding" : Str)).bind (fun g => permOf g 1 []) = some ([.pos 0] : List GS.PA) := by rfl
  rw [e1] at e
  cases e2.symm.trans e
  have kb : KBn K fd d_feeding.ps 1 [] (fun us ws => [us.getD 0 .none]) (fun vs zs => [vs.getD 0 .non]) := kb_plain F (fun r rz => .cons (gd_rel r 0) (.nil)) fun dV kV doc pm an cdv ct us ws l1 l2 hd => by
    cases hd rfl
    match us, ws, l1, l2 with
    | [u0], [], _, _ => rfl
  exact ⟨d_feeding, by simp [ds], rfl, _, _, fa, fd, _, _, F, at_, kb, fun vs zs l1 l2 => match vs, zs, l1, l2 with | [v0], [], _, _ => ⟨rfl, rfl⟩⟩
theorem b_26 (h : At K mg d__law_many [] []) : BindAt K mg ("_law_many", 3, []) := by
  obtain ⟨fa, fd, F, at_⟩ := h
  intro g ps e1 e2
  have e : (T.sig.lookup ("_law_many" : Str)).bind (fun g => permOf g 3 []) = some ([.pos 0, .pos 1, .pos 2] : List GS.PA) := by rfl
  rw [e1] at e
  cases e2.symm.trans e
  have kb : KBn K fd d__law_many.ps 3 [] (fun us ws => [us.getD 0 .none, us.getD 1 .none, us.getD 2 .none]) (fun vs zs => [vs.getD 0 .non, vs.getD 1 .non, vs.getD 2 .non]) := kb_plain F (fun r rz => .cons (gd_rel r 0) (.cons (gd_rel r 1) (.cons (gd_rel r 2) (.nil)))) fun dV kV doc pm an cdv ct us ws l1 l2 hd => by
    cases hd rfl
    match us, ws, l1, l2 with
    | [u0, u1, u2], [], _, _ => rfl
  exact ⟨d__law_many, by simp [ds], rfl, _, _, fa, fd, _, _, F, at_, kb, fun vs zs l1 l2 => match vs, zs, l1, l2 with | [v0, v1, v2], [], _, _ => ⟨rfl, rfl⟩⟩
theorem b_27 (h : At K mg d__law_checks [] []) : BindAt K mg ("_law_checks", 1, []) := by
  obtain ⟨fa, fd, F, at_⟩ := h
  intro g ps e1 e2
  have e : (T.sig.lookup ("_law_checks" : Str)).bind (fun g => permOf g 1 []) = some ([.pos 0] : List GS.PA) := by rfl
  rw [e1] at e
  cases e2.symm.trans e
  have kb : KBn K fd d__law_checks.ps 1 [] (fun us ws => [us.getD 0 .none]) (fun vs zs => [vs.getD 0 .non]) := kb_plain F (fun r rz => .cons (gd_rel r 0) (.nil)) fun dV kV doc pm an cdv ct us ws l1 l2 hd => by
    cases hd rfl
    match us, ws, l1, l2 with
    | [u0], [], _, _ => rfl
  exact ⟨d__law_checks, by simp [ds], rfl, _, _, fa, fd, _, _, F, at_, kb, fun vs zs l1 l2 => match vs, zs, l1, l2 with | [v0], [], _, _ => ⟨rfl, rfl⟩⟩
theorem b_28 (h : At K mg d_delays_of [] [("corner", V.int (0))]) : BindAt K mg ("delays_of", 2, []) := by
  obtain ⟨fa, fd, F, at_⟩ := h
  intro g ps e1 e2
  have e : (T.sig.lookup ("delays_of" : Str)).bind (fun g => permOf g 2 []) = some ([.pos 0, .pos 1, .dfl (PyData.int (0))] : List GS.PA) := by rfl
  rw [e1] at e
  cases e2.symm.trans e
  obtain ⟨mv, kb⟩ := kb_kwd (n := 2) (ks := []) (ps := d_delays_of.ps) (g := fun us mv ws => [us.getD 0 .none, us.getD 1 .none, mv.getD 0 .none]) (gV := fun vs ds zs => [vs.getD 0 .non, vs.getD 1 .non, ds.getD 0 .non]) ([("corner", V.int (0))] : List (Str × V)) F (by simp) (by simp) (fun r rm rz => .cons (gd_rel r 0) (.cons (gd_rel r 1) (.cons (gd_rel rm 0) (.nil)))) fun D doc pm an cdv ct us mv ws l1 l2 l3 =>
    match us, mv, ws, l1, l2, l3 with
    | [u0, u1], [m0], [], _, _, _ => ⟨_, _, _, _, _, _, rfl, rfl, rfl⟩
  exact ⟨d_delays_of, by simp [ds], rfl, _, _, fa, fd, _, _, F, at_, kb, fun vs zs l1 l2 => match vs, zs, l1, l2 with | [v0, v1], [], _, _ => ⟨rfl, rfl⟩⟩
theorem b_29 (h : At K mg d_slack_along [] [("side", V.str "late"), ("corner", V.int (0))]) : BindAt K mg ("slack_along", 3, []) := by
  obtain ⟨fa, fd, F, at_⟩ := h
  intro g ps e1 e2
  have e : (T.sig.lookup ("slack_along" : Str)).bind (fun g => permOf g 3 []) = some ([.pos 0, .pos 1, .pos 2, .dfl (PyData.str "late"), .dfl (PyData.int (0))] : List GS.PA) := by rfl
  rw [e1] at e
  cases e2.symm.trans e
  obtain ⟨mv, kb⟩ := kb_kwd (n := 3) (ks := []) (ps := d_slack_along.ps) (g := fun us mv ws => [us.getD 0 .none, us.getD 1 .none, us.getD 2 .none, mv.getD 0 .none, mv.getD 1 .none]) (gV := fun vs ds zs => [vs.getD 0 .non, vs.getD 1 .non, vs.getD 2 .non, ds.getD 0 .non, ds.getD 1 .non]) ([("side", V.str "late"), ("corner", V.int (0))] : List (Str × V)) F (by simp) (by simp) (fun r rm rz => .cons (gd_rel r 0) (.cons (gd_rel r 1) (.cons (gd_rel r 2) (.cons (gd_rel rm 0) (.cons (gd_rel rm 1) (.nil)))))) fun D doc pm an cdv ct us mv ws l1 l2 l3 =>
    match us, mv, ws, l1, l2, l3 with
    | [u0, u1, u2], [m0, m1], [], _, _, _ => ⟨_, _, _, _, _, _, rfl, rfl, ⟨_, _, _, _, _, _, rfl, rfl, rfl⟩⟩
  exact ⟨d_slack_along, by simp [ds], rfl, _, _, fa, fd, _, _, F, at_, kb, fun vs zs l1 l2 => match vs, zs, l1, l2 with | [v0, v1, v2], [], _, _ => ⟨rfl, rfl⟩⟩
theorem b_30 (h : At K mg d__law_slack [] []) : BindAt K mg ("_law_slack", 5, []) := by
  obtain ⟨fa, fd, F, at_⟩ := h
  intro g ps e1 e2
  have e : (T.sig.lookup ("_law_slack" : Str)).bind (fun g => permOf g 5 []) = some ([.pos 0, .pos 1, .pos 2, .pos 3, .pos 4] : List GS.PA) := by rfl
  rw [e1] at e
  cases e2.symm.trans e
  have kb : KBn K fd d__law_slack.ps 5 [] (fun us ws => [us.getD 0 .none, us.getD 1 .none, us.getD 2 .none, us.getD 3 .none, us.getD 4 .none]) (fun vs zs => [vs.getD 0 .non, vs.getD 1 .non, vs.getD 2 .non, vs.getD 3 .non, vs.getD 4 .non]) := kb_plain F (fun r rz => .cons (gd_rel r 0) (.cons (gd_rel r 1) (.cons (gd_rel r 2) (.cons (gd_rel r 3) (.cons (gd_rel r 4) (.nil)))))) fun dV kV doc pm an cdv ct us ws l1 l2 hd => by
    cases hd rfl
    match us, ws, l1, l2 with
    | [u0, u1, u2, u3, u4], [], _, _ => rfl
  exact ⟨d__law_slack, by simp [ds], rfl, _, _, fa, fd, _, _, F, at_, kb, fun vs zs l1 l2 => match vs, zs, l1, l2 with | [v0, v1, v2, v3, v4], [], _, _ => ⟨rfl, rfl⟩⟩
theorem b_31 (h : At K mg d_corners_of [] []) : BindAt K mg ("corners_of", 1, []) := by
  obtain ⟨fa, fd, F, at_⟩ := h
  intro g ps e1 e2
  have e : (T.sig.lookup ("corners_of" : Str)).bind (fun g => permOf g 1 []) = some ([.pos 0] : List GS.PA) := by rfl
  rw [e1] at e
  cases e2.symm.trans e
  have kb : KBn K fd d_corners_of.ps 1 [] (fun us ws => [us.getD 0 .none]) (fun vs zs => [vs.getD 0 .non]) := kb_plain F (fun r rz => .cons (gd_rel r 0) (.nil)) fun dV kV doc pm an cdv ct us ws l1 l2 hd => by
    cases hd rfl
    match us, ws, l1, l2 with
    | [u0], [], _, _ => rfl
  exact ⟨d_corners_of, by simp [ds], rfl, _, _, fa, fd, _, _, F, at_, kb, fun vs zs l1 l2 => match vs, zs, l1, l2 with | [v0], [], _, _ => ⟨rfl, rfl⟩⟩
theorem b_32 (h : At K mg d__law_gate [] []) : BindAt K mg ("_law_gate", 4, []) := by
  obtain ⟨fa, fd, F, at_⟩ := h
  intro g ps e1 e2
  have e : (T.sig.lookup ("_law_gate" : Str)).bind (fun g => permOf g 4 []) = some ([.io 0, .pos 1, .pos 2, .pos 3] : List GS.PA) := by rfl
  rw [e1] at e
  cases e2.symm.trans e
  have kb : KBn K fd d__law_gate.ps 4 [] (fun us ws => [us.getD 0 .none, us.getD 1 .none, us.getD 2 .none, us.getD 3 .none]) (fun vs zs => [vs.getD 0 .non, vs.getD 1 .non, vs.getD 2 .non, vs.getD 3 .non]) := kb_plain F (fun r rz => .cons (gd_rel r 0) (.cons (gd_rel r 1) (.cons (gd_rel r 2) (.cons (gd_rel r 3) (.nil))))) fun dV kV doc pm an cdv ct us ws l1 l2 hd => by
    cases hd rfl
    match us, ws, l1, l2 with
    | [u0, u1, u2, u3], [], _, _ => rfl
  exact ⟨d__law_gate, by simp [ds], rfl, _, _, fa, fd, _, _, F, at_, kb, fun vs zs l1 l2 => match vs, zs, l1, l2 with | [v0, v1, v2, v3], [], _, _ => ⟨rfl, rfl⟩⟩
theorem b_33 (h : At K mg d_delays_of [] [("corner", V.int (0))]) : BindAt K mg ("delays_of", 1, ["path", "corner"]) := by
  obtain ⟨fa, fd, F, at_⟩ := h
  intro g ps e1 e2
  have e : (T.sig.lookup ("delays_of" : Str)).bind (fun g => permOf g 1 ["path", "corner"]) = some ([.pos 0, .pos 1, .pos 2] : List GS.PA) := by rfl
  rw [e1] at e
  cases e2.symm.trans e
  have kb : KBn K fd d_delays_of.ps 1 ["path", "corner"] (fun us ws => [us.getD 0 .none, ws.getD 0 .none, ws.getD 1 .none]) (fun vs zs => [vs.getD 0 .non, zs.getD 0 .non, zs.getD 1 .non]) := kb_plain F (fun r rz => .cons (gd_rel r 0) (.cons (gd_rel rz 0) (.cons (gd_rel rz 1) (.nil)))) fun dV kV doc pm an cdv ct us ws l1 l2 hd => by
    cases hd rfl
    match us, ws, l1, l2 with
    | [u0], [w0, w1], _, _ => rfl
  exact ⟨d_delays_of, by simp [ds], rfl, _, _, fa, fd, _, _, F, at_, kb, fun vs zs l1 l2 => match vs, zs, l1, l2 with | [v0], [z0, z1], _, _ => ⟨rfl, rfl⟩⟩
theorem b_34 (h : At K mg d_slack_along [] [("side", V.str "late"), ("corner", V.int (0))]) : BindAt K mg ("slack_along", 3, ["corner"]) := by
  obtain ⟨fa, fd, F, at_⟩ := h
  intro g ps e1 e2
  have e : (T.sig.lookup ("slack_along" : Str)).bind (fun g => permOf g 3 ["corner"]) = some ([.pos 0, .pos 1, .pos 2, .dfl (PyData.str "late"), .pos 3] : List GS.PA) := by rfl
  rw [e1] at e
  cases e2.symm.trans e
  obtain ⟨mv, kb⟩ := kb_kwd (n := 3) (ks := ["corner"]) (ps := d_slack_along.ps) (g := fun us mv ws => [us.getD 0 .none, us.getD 1 .none, us.getD 2 .none, mv.getD 0 .none, ws.getD 0 .none]) (gV := fun vs ds zs => [vs.getD 0 .non, vs.getD 1 .non, vs.getD 2 .non, ds.getD 0 .non, zs.getD 0 .non]) ([("side", V.str "late")] : List (Str × V)) F (by simp) (by simp) (fun r rm rz => .cons (gd_rel r 0) (.cons (gd_rel r 1) (.cons (gd_rel r 2) (.cons (gd_rel rm 0) (.cons (gd_rel rz 0) (.nil)))))) fun D doc pm an cdv ct us mv ws l1 l2 l3 =>
    match us, mv, ws, l1, l2, l3 with
    | [u0, u1, u2], [m0], [w0], _, _, _ => ⟨_, _, _, _, _, _, rfl, rfl, rfl⟩
  exact ⟨d_slack_along, by simp [ds], rfl, _, _, fa, fd, _, _, F, at_, kb, fun vs zs l1 l2 => match vs, zs, l1, l2 with | [v0, v1, v2], [z0], _, _ => ⟨rfl, rfl⟩⟩
theorem b_35 (h : At K mg d_slack_along [] [("side", V.str "late"), ("corner", V.int (0))]) : BindAt K mg ("slack_along", 3, ["side", "corner"]) := by
  obtain ⟨fa, fd, F, at_⟩ := h
  intro g ps e1 e2
  have e : (T.sig.lookup ("slack_along" : Str)).bind (fun g => permOf g 3 ["side", "corner"]) = some ([.pos 0, .pos 1, .pos 2, .pos 3, .pos 4] : List GS.PA) := by rfl
  rw [e1] at e
  cases e2.symm.trans e
  have kb : KBn K fd d_slack_along.ps 3 ["side", "corner"] (fun us ws => [us.getD 0 .none, us.getD 1 .none, us.getD 2 .none, ws.getD 0 .none, ws.getD 1 .none]) (fun vs zs => [vs.getD 0 .non, vs.getD 1 .non, vs.getD 2 .non, zs.getD 0 .non, zs.getD 1 .non]) := kb_plain F (fun r rz => .cons (gd_rel r 0) (.cons (gd_rel r 1) (.cons (gd_rel r 2) (.cons (gd_rel rz 0) (.cons (gd_rel rz 1) (.nil)))))) fun dV kV doc pm an cdv ct us ws l1 l2 hd => by
    cases hd rfl
    match us, ws, l1, l2 with
    | [u0, u1, u2], [w0, w1], _, _ => rfl
  exact ⟨d_slack_along, by simp [ds], rfl, _, _, fa, fd, _, _, F, at_, kb, fun vs zs l1 l2 => match vs, zs, l1, l2 with | [v0, v1, v2], [z0, z1], _, _ => ⟨rfl, rfl⟩⟩
theorem b_36 (h : At K mg d_slack_along [] [("side", V.str "late"), ("corner", V.int (0))]) : BindAt K mg ("slack_along", 1, ["path", "clock", "corner", "side"]) := by
  obtain ⟨fa, fd, F, at_⟩ := h
  intro g ps e1 e2
  have e : (T.sig.lookup ("slack_along" : Str)).bind (fun g => permOf g 1 ["path", "clock", "corner", "side"]) = some ([.pos 0, .pos 2, .pos 1, .pos 4, .pos 3] : List GS.PA) := by rfl
  rw [e1] at e
  cases e2.symm.trans e
  have kb : KBn K fd d_slack_along.ps 1 ["path", "clock", "corner", "side"] (fun us ws => [us.getD 0 .none, ws.getD 1 .none, ws.getD 0 .none, ws.getD 3 .none, ws.getD 2 .none]) (fun vs zs => [vs.getD 0 .non, zs.getD 1 .non, zs.getD 0 .non, zs.getD 3 .non, zs.getD 2 .non]) := kb_plain F (fun r rz => .cons (gd_rel r 0) (.cons (gd_rel rz 1) (.cons (gd_rel rz 0) (.cons (gd_rel rz 3) (.cons (gd_rel rz 2) (.nil)))))) fun dV kV doc pm an cdv ct us ws l1 l2 hd => by
    cases hd rfl
    match us, ws, l1, l2 with
    | [u0], [w0, w1, w2, w3], _, _ => rfl
  exact ⟨d_slack_along, by simp [ds], rfl, _, _, fa, fd, _, _, F, at_, kb, fun vs zs l1 l2 => match vs, zs, l1, l2 with | [v0], [z0, z1, z2, z3], _, _ => ⟨rfl, rfl⟩⟩
theorem b_37 (h : At K mg d_is_name [] []) : BindAt K mg ("is_name", 1, []) := by
  obtain ⟨fa, fd, F, at_⟩ := h
  intro g ps e1 e2
  have e : (T.sig.lookup ("is_name" : Str)).bind (fun g => permOf g 1 []) = some ([.pos 0] : List GS.PA) := by rfl
  rw [e1] at e
  cases e2.symm.trans e
  have kb : KBn K fd d_is_name.ps 1 [] (fun us ws => [us.getD 0 .none]) (fun vs zs => [vs.getD 0 .non]) := kb_plain F (fun r rz => .cons (gd_rel r 0) (.nil)) fun dV kV doc pm an cdv ct us ws l1 l2 hd => by
    cases hd rfl
    match us, ws, l1, l2 with
    | [u0], [], _, _ => rfl
  exact ⟨d_is_name, by simp [ds], rfl, _, _, fa, fd, _, _, F, at_, kb, fun vs zs l1 l2 => match vs, zs, l1, l2 with | [v0], [], _, _ => ⟨rfl, rfl⟩⟩
theorem b_38 (h : At K mg d__law_way_right [] []) : BindAt K mg ("_law_way_right", 3, []) := by
  obtain ⟨fa, fd, F, at_⟩ := h
  intro g ps e1 e2
  have e : (T.sig.lookup ("_law_way_right" : Str)).bind (fun g => permOf g 3 []) = some ([.pos 0, .pos 1, .pos 2] : List GS.PA) := by rfl
  rw [e1] at e
  cases e2.symm.trans e
  have kb : KBn K fd d__law_way_right.ps 3 [] (fun us ws => [us.getD 0 .none, us.getD 1 .none, us.getD 2 .none]) (fun vs zs => [vs.getD 0 .non, vs.getD 1 .non, vs.getD 2 .non]) := kb_plain F (fun r rz => .cons (gd_rel r 0) (.cons (gd_rel r 1) (.cons (gd_rel r 2) (.nil)))) fun dV kV doc pm an cdv ct us ws l1 l2 hd => by
    cases hd rfl
    match us, ws, l1, l2 with
    | [u0, u1, u2], [], _, _ => rfl
  exact ⟨d__law_way_right, by simp [ds], rfl, _, _, fa, fd, _, _, F, at_, kb, fun vs zs l1 l2 => match vs, zs, l1, l2 with | [v0, v1, v2], [], _, _ => ⟨rfl, rfl⟩⟩
theorem b_39 (h : At K mg d__law_ways [] []) : BindAt K mg ("_law_ways", 1, []) := by
  obtain ⟨fa, fd, F, at_⟩ := h
  intro g ps e1 e2
  have e : (T.sig.lookup ("_law_ways" : Str)).bind (fun g => permOf g 1 []) = some ([.pos 0] : List GS.PA) := by rfl
  rw [e1] at e
  cases e2.symm.trans e
  have kb : KBn K fd d__law_ways.ps 1 [] (fun us ws => [us.getD 0 .none]) (fun vs zs => [vs.getD 0 .non]) := kb_plain F (fun r rz => .cons (gd_rel r 0) (.nil)) fun dV kV doc pm an cdv ct us ws l1 l2 hd => by
    cases hd rfl
    match us, ws, l1, l2 with
    | [u0], [], _, _ => rfl
  exact ⟨d__law_ways, by simp [ds], rfl, _, _, fa, fd, _, _, F, at_, kb, fun vs zs l1 l2 => match vs, zs, l1, l2 with | [v0], [], _, _ => ⟨rfl, rfl⟩⟩
variable {h : Heap}
theorem wld (X : K.In h) (G : h.Ns mainGlobals mg) (c : He.SaysD fa fn K) : Wld T prog K mg ds := by
  have a0 : At K mg d_is_whole [] [("least", V.int (0)), ("most", V.int (999))] := (c.def_ 0 (d := h_is_whole) rfl).elim fun fd F => ⟨_, fd, F, He.glo_ok X G (c.fact 0 (f := .glo "is_whole") rfl)⟩
  have a1 : At K mg d_is_name [] [] := (c.def_ 1 (d := h_is_name) rfl).elim fun fd F => ⟨_, fd, F, He.glo_ok X G (c.fact 1 (f := .glo "is_name") rfl)⟩
  have a2 : At K mg d_starts_of [] [] := (c.def_ 2 (d := h_starts_of) rfl).elim fun fd F => ⟨_, fd, F, He.glo_ok X G (c.fact 2 (f := .glo "starts_of") rfl)⟩
  have a3 : At K mg d_ends_of [] [] := (c.def_ 3 (d := h_ends_of) rfl).elim fun fd F => ⟨_, fd, F, He.glo_ok X G (c.fact 3 (f := .glo "ends_of") rfl)⟩
  have a4 : At K mg d_corners_of [] [] := (c.def_ 4 (d := h_corners_of) rfl).elim fun fd F => ⟨_, fd, F, He.glo_ok X G (c.fact 4 (f := .glo "corners_of") rfl)⟩
  have a5 : At K mg d_feeding [] [] := (c.def_ 5 (d := h_feeding) rfl).elim fun fd F => ⟨_, fd, F, He.glo_ok X G (c.fact 5 (f := .glo "feeding") rfl)⟩
  have a6 : At K mg d_is_path [] [] := (c.def_ 6 (d := h_is_path) rfl).elim fun fd F => ⟨_, fd, F, He.glo_ok X G (c.fact 6 (f := .glo "is_path") rfl)⟩
  have a7 : At K mg d_need_path [] [] := (c.def_ 7 (d := h_need_path) rfl).elim fun fd F => ⟨_, fd, F, He.glo_ok X G (c.fact 7 (f := .glo "need_path") rfl)⟩
  have a8 : At K mg d_are_skews [] [] := (c.def_ 8 (d := h_are_skews) rfl).elim fun fd F => ⟨_, fd, F, He.glo_ok X G (c.fact 8 (f := .glo "are_skews") rfl)⟩
  have a9 : At K mg d_is_clock [] [] := (c.def_ 9 (d := h_is_clock) rfl).elim fun fd F => ⟨_, fd, F, He.glo_ok X G (c.fact 9 (f := .glo "is_clock") rfl)⟩
  have a10 : At K mg d_need_clock [] [] := (c.def_ 10 (d := h_need_clock) rfl).elim fun fd F => ⟨_, fd, F, He.glo_ok X G (c.fact 10 (f := .glo "need_clock") rfl)⟩
  have a11 : At K mg d_is_corner [] [] := (c.def_ 11 (d := h_is_corner) rfl).elim fun fd F => ⟨_, fd, F, He.glo_ok X G (c.fact 11 (f := .glo "is_corner") rfl)⟩
  have a12 : At K mg d_need_corner [] [] := (c.def_ 12 (d := h_need_corner) rfl).elim fun fd F => ⟨_, fd, F, He.glo_ok X G (c.fact 12 (f := .glo "need_corner") rfl)⟩
  have a13 : At K mg d_fits_end [] [] := (c.def_ 13 (d := h_fits_end) rfl).elim fun fd F => ⟨_, fd, F, He.glo_ok X G (c.fact 13 (f := .glo "fits_end") rfl)⟩
  have a14 : At K mg d_sums_along [] [] := (c.def_ 14 (d := h_sums_along) rfl).elim fun fd F => ⟨_, fd, F, He.glo_ok X G (c.fact 14 (f := .glo "sums_along") rfl)⟩
  have a15 : At K mg d_delays_of [] [("corner", V.int (0))] := (c.def_ 15 (d := h_delays_of) rfl).elim fun fd F => ⟨_, fd, F, He.glo_ok X G (c.fact 15 (f := .glo "delays_of") rfl)⟩
  have a16 : At K mg d_slack_by [] [] := (c.def_ 16 (d := h_slack_by) rfl).elim fun fd F => ⟨_, fd, F, He.glo_ok X G (c.fact 16 (f := .glo "slack_by") rfl)⟩
  have a17 : At K mg d_slack_along [] [("side", V.str "late"), ("corner", V.int (0))] := (c.def_ 17 (d := h_slack_along) rfl).elim fun fd F => ⟨_, fd, F, He.glo_ok X G (c.fact 17 (f := .glo "slack_along") rfl)⟩
  have a18 : At K mg d__law_begin [] [] := (c.def_ 18 (d := h__law_begin) rfl).elim fun fd F => ⟨_, fd, F, He.glo_ok X G (c.fact 18 (f := .glo "_law_begin") rfl)⟩
  have a19 : At K mg d__law_mixed [] [] := (c.def_ 19 (d := h__law_mixed) rfl).elim fun fd F => ⟨_, fd, F, He.glo_ok X G (c.fact 19 (f := .glo "_law_mixed") rfl)⟩
  have a20 : At K mg d__law_next [] [] := (c.def_ 20 (d := h__law_next) rfl).elim fun fd F => ⟨_, fd, F, He.glo_ok X G (c.fact 20 (f := .glo "_law_next") rfl)⟩
  have a21 : At K mg d__law_names [] [] := (c.def_ 21 (d := h__law_names) rfl).elim fun fd F => ⟨_, fd, F, He.glo_ok X G (c.fact 21 (f := .glo "_law_names") rfl)⟩
  have a22 : At K mg d__law_picked [] [] := (c.def_ 22 (d := h__law_picked) rfl).elim fun fd F => ⟨_, fd, F, He.glo_ok X G (c.fact 22 (f := .glo "_law_picked") rfl)⟩
  have a23 : At K mg d__law_delays [] [] := (c.def_ 23 (d := h__law_delays) rfl).elim fun fd F => ⟨_, fd, F, He.glo_ok X G (c.fact 23 (f := .glo "_law_delays") rfl)⟩
  have a24 : At K mg d__law_gate [] [] := (c.def_ 24 (d := h__law_gate) rfl).elim fun fd F => ⟨_, fd, F, He.glo_ok X G (c.fact 24 (f := .glo "_law_gate") rfl)⟩
  have a25 : At K mg d__law_many [] [] := (c.def_ 25 (d := h__law_many) rfl).elim fun fd F => ⟨_, fd, F, He.glo_ok X G (c.fact 25 (f := .glo "_law_many") rfl)⟩
  have a26 : At K mg d__law_register [] [] := (c.def_ 26 (d := h__law_register) rfl).elim fun fd F => ⟨_, fd, F, He.glo_ok X G (c.fact 26 (f := .glo "_law_register") rfl)⟩
  have a27 : At K mg d__law_netlist [] [] := (c.def_ 27 (d := h__law_netlist) rfl).elim fun fd F => ⟨_, fd, F, He.glo_ok X G (c.fact 27 (f := .glo "_law_netlist") rfl)⟩
  have a28 : At K mg d__law_clock [] [] := (c.def_ 28 (d := h__law_clock) rfl).elim fun fd F => ⟨_, fd, F, He.glo_ok X G (c.fact 28 (f := .glo "_law_clock") rfl)⟩
  have a29 : At K mg d__law_ways [] [] := (c.def_ 29 (d := h__law_ways) rfl).elim fun fd F => ⟨_, fd, F, He.glo_ok X G (c.fact 29 (f := .glo "_law_ways") rfl)⟩
  have a30 : At K mg d__law_sums [] [] := (c.def_ 30 (d := h__law_sums) rfl).elim fun fd F => ⟨_, fd, F, He.glo_ok X G (c.fact 30 (f := .glo "_law_sums") rfl)⟩
  have a31 : At K mg d__law_slack [] [] := (c.def_ 31 (d := h__law_slack) rfl).elim fun fd F => ⟨_, fd, F, He.glo_ok X G (c.fact 31 (f := .glo "_law_slack") rfl)⟩
  have a32 : At K mg d__law_corners [] [] := (c.def_ 32 (d := h__law_corners) rfl).elim fun fd F => ⟨_, fd, F, He.glo_ok X G (c.fact 32 (f := .glo "_law_corners") rfl)⟩
  have a33 : At K mg d__law_checks [] [] := (c.def_ 33 (d := h__law_checks) rfl).elim fun fd F => ⟨_, fd, F, He.glo_ok X G (c.fact 33 (f := .glo "_law_checks") rfl)⟩
  have a34 : At K mg d__law_way_right [] [] := (c.def_ 34 (d := h__law_way_right) rfl).elim fun fd F => ⟨_, fd, F, He.glo_ok X G (c.fact 34 (f := .glo "_law_way_right") rfl)⟩
  have a35 : At K mg d_law [] [] := (c.def_ 35 (d := h_law) rfl).elim fun fd F => ⟨_, fd, F, He.glo_ok X G (c.fact 35 (f := .glo "law") rfl)⟩
  refine ⟨fun d hd => ?_, rfl, fun x hx => ?_, fun x hx => ?_, fun f g m ks ps h1 h2 h3 => ?_⟩
  · have all : ∀ d ∈ ds, DefOk T prog K mg d := List.forall_mem_cons.mpr ⟨⟨rfl, sc_is_whole, tr_is_whole, _, _, a0⟩, List.forall_mem_cons.mpr ⟨⟨rfl, sc_is_name, tr_is_name, _, _, a1⟩, List.forall_mem_cons.mpr ⟨⟨rfl, sc_starts_of, tr_starts_of, _, _, a2⟩, List.forall_mem_cons.mpr ⟨⟨rfl, sc_ends_of, tr_ends_of, _, _, a3⟩, List.forall_mem_cons.mpr ⟨⟨rfl, sc_corners_of, tr_corners_of, _, _, a4⟩, List.forall_mem_cons.mpr ⟨⟨rfl, sc_feeding, tr_feeding, _, _, a5⟩, List.forall_mem_cons.mpr ⟨⟨rfl, sc_is_path, tr_is_path, _, _, a6⟩, List.forall_mem_cons.mpr ⟨⟨rfl, sc_need_path, tr_need_path, _, _, a7⟩, List.forall_mem_cons.mpr ⟨⟨rfl, sc_are_skews, tr_are_skews, _, _, a8⟩, List.forall_mem_cons.mpr ⟨⟨rfl, sc_is_clock, tr_is_clock, _, _, a9⟩, List.forall_mem_cons.mpr ⟨⟨rfl, sc_need_clock, tr_need_clock, _, _, a10⟩, List.forall_mem_cons.mpr ⟨⟨rfl, sc_is_corner, tr_is_corner, _, _, a11⟩, List.forall_mem_cons.mpr ⟨⟨rfl, sc_need_corner, tr_need_corner, _, _, a12⟩, List.forall_mem_cons.mpr ⟨⟨rfl, sc_fits_end, tr_fits_end, _, _, a13⟩, List.forall_mem_cons.mpr ⟨⟨rfl, sc_sums_along, tr_sums_along, _, _, a14⟩, List.forall_mem_cons.mpr ⟨⟨rfl, sc_delays_of, tr_delays_of, _, _, a15⟩, List.forall_mem_cons.mpr ⟨⟨rfl, sc_slack_by, tr_slack_by, _, _, a16⟩, List.forall_mem_cons.mpr ⟨⟨rfl, sc_slack_along, tr_slack_along, _, _, a17⟩, List.forall_mem_cons.mpr ⟨⟨rfl, sc__law_begin, tr__law_begin, _, _, a18⟩, List.forall_mem_cons.mpr ⟨⟨rfl, sc__law_mixed, tr__law_mixed, _, _, a19⟩, List.forall_mem_cons.mpr ⟨⟨rfl, sc__law_next, tr__law_next, _, _, a20⟩, List.forall_mem_cons.mpr ⟨⟨rfl, sc__law_names, tr__law_names, _, _, a21⟩, List.forall_mem_cons.mpr ⟨⟨rfl, sc__law_picked, tr__law_picked, _, _, a22⟩, List.forall_mem_cons.mpr ⟨⟨rfl, sc__law_delays, tr__law_delays, _, _, a23⟩, List.forall_mem_cons.mpr ⟨⟨rfl, sc__law_gate, tr__law_gate, _, _, a24⟩, List.forall_mem_cons.mpr ⟨⟨rfl, sc__law_many, tr__law_many, _, _, a25⟩, List.forall_mem_cons.mpr ⟨⟨rfl, sc__law_register, tr__law_register, _, _, a26⟩, List.forall_mem_cons.mpr ⟨⟨rfl, sc__law_netlist, tr__law_netlist, _, _, a27⟩, List.forall_mem_cons.mpr ⟨⟨rfl, sc__law_clock, tr__law_clock, _, _, a28⟩, List.forall_mem_cons.mpr ⟨⟨rfl, sc__law_ways, tr__law_ways, _, _, a29⟩, List.forall_mem_cons.mpr ⟨⟨rfl, sc__law_sums, tr__law_sums, _, _, a30⟩, List.forall_mem_cons.mpr ⟨⟨rfl, sc__law_slack, tr__law_slack, _, _, a31⟩, List.forall_mem_cons.mpr ⟨⟨rfl, sc__law_corners, tr__law_corners, _, _, a32⟩, List.forall_mem_cons.mpr ⟨⟨rfl, sc__law_checks, tr__law_checks, _, _, a33⟩, List.forall_mem_cons.mpr ⟨⟨rfl, sc__law_way_right, tr__law_way_right, _, _, a34⟩, List.forall_mem_cons.mpr ⟨⟨rfl, sc_law, tr_law, _, _, a35⟩, List.forall_mem_nil _⟩⟩⟩⟩⟩⟩⟩⟩⟩⟩⟩⟩⟩⟩⟩⟩⟩⟩⟩⟩⟩⟩⟩⟩⟩⟩⟩⟩⟩⟩⟩⟩⟩⟩⟩⟩
    exact all d hd
  · have all : ∀ x ∈ T.free, mg x = none := List.forall_mem_cons.mpr ⟨He.free_ok X G (c.fact 36 (f := .free "all") rfl), List.forall_mem_cons.mpr ⟨He.free_ok X G (c.fact 37 (f := .free "tuple") rfl), List.forall_mem_cons.mpr ⟨He.free_ok X G (c.fact 38 (f := .free "range") rfl), List.forall_mem_cons.mpr ⟨He.free_ok X G (c.fact 39 (f := .free "sum") rfl), List.forall_mem_cons.mpr ⟨He.free_ok X G (c.fact 40 (f := .free "dict") rfl), List.forall_mem_cons.mpr ⟨He.free_ok X G (c.fact 41 (f := .free "sorted") rfl), List.forall_mem_cons.mpr ⟨He.free_ok X G (c.fact 42 (f := .free "isinstance") rfl), List.forall_mem_cons.mpr ⟨He.free_ok X G (c.fact 43 (f := .free "int") rfl), List.forall_mem_cons.mpr ⟨He.free_ok X G (c.fact 44 (f := .free "len") rfl), List.forall_mem_cons.mpr ⟨He.free_ok X G (c.fact 45 (f := .free "list") rfl), List.forall_mem_cons.mpr ⟨He.free_ok X G (c.fact 46 (f := .free "min") rfl), List.forall_mem_cons.mpr ⟨He.free_ok X G (c.fact 47 (f := .free "repr") rfl), List.forall_mem_cons.mpr ⟨He.free_ok X G (c.fact 48 (f := .free "bool") rfl), List.forall_mem_cons.mpr ⟨He.free_ok X G (c.fact 49 (f := .free "str") rfl), List.forall_mem_cons.mpr ⟨He.free_ok X G (c.fact 50 (f := .free "zip") rfl), List.forall_mem_nil _⟩⟩⟩⟩⟩⟩⟩⟩⟩⟩⟩⟩⟩⟩⟩
    exact all x (List.contains_iff_mem.mp hx)
  · have all : ∀ x ∈ T.con, ∃ v u, mg x = some u ∧ RelV v u ∧ ∀ d, prog.G x = some d → ∀ W H, Rep K mg W H d v := List.forall_mem_cons.mpr ⟨(He.int_ok X G (c.fact 51 (f := .int "MOST" (999)) rfl)).elim fun t e => ⟨.int (999), _, e, ⟨t, rfl⟩, fun d q W H => (by cases (show some (PyData.int (999)) = some d from q); exact .int _)⟩, List.forall_mem_cons.mpr ⟨(He.str_ok X G (c.fact 52 (f := .str "SMALL" "abcdefghijklmnopqrstuvwxyz") rfl)).elim fun t e => ⟨.str "abcdefghijklmnopqrstuvwxyz", _, e, ⟨t, rfl⟩, fun d q W H => (by cases (show some (PyData.str "abcdefghijklmnopqrstuvwxyz") = some d from q); exact .str _ (by decide +kernel) (by decide +kernel))⟩, List.forall_mem_cons.mpr ⟨(He.int_ok X G (c.fact 53 (f := .int "MOST_LETTERS" (8)) rfl)).elim fun t e => ⟨.int (8), _, e, ⟨t, rfl⟩, fun d q W H => (by cases (show some (PyData.int (8)) = some d from q); exact .int _)⟩, List.forall_mem_cons.mpr ⟨(He.int_ok X G (c.fact 54 (f := .int "MOST_PERIOD" (99999)) rfl)).elim fun t e => ⟨.int (99999), _, e, ⟨t, rfl⟩, fun d q W H => (by cases (show some (PyData.int (99999)) = some d from q); exact .int _)⟩, List.forall_mem_cons.mpr ⟨(He.int_ok X G (c.fact 55 (f := .int "MOST_SHIFT" (9999)) rfl)).elim fun t e => ⟨.int (9999), _, e, ⟨t, rfl⟩, fun d q W H => (by cases (show some (PyData.int (9999)) = some d from q); exact .int _)⟩, List.forall_mem_nil _⟩⟩⟩⟩⟩
    exact all x (List.contains_iff_mem.mp hx)
  · have all : ∀ p ∈ T.pats, BindAt K mg p := List.forall_mem_cons.mpr ⟨b_0 a0, List.forall_mem_cons.mpr ⟨b_1 a7, List.forall_mem_cons.mpr ⟨b_2 a12, List.forall_mem_cons.mpr ⟨b_3 a14, List.forall_mem_cons.mpr ⟨b_4 a10, List.forall_mem_cons.mpr ⟨b_5 a16, List.forall_mem_cons.mpr ⟨b_6 a22, List.forall_mem_cons.mpr ⟨b_7 a21, List.forall_mem_cons.mpr ⟨b_8 a30, List.forall_mem_cons.mpr ⟨b_9 a18, List.forall_mem_cons.mpr ⟨b_10 a6, List.forall_mem_cons.mpr ⟨b_11 a0, List.forall_mem_cons.mpr ⟨b_12 a8, List.forall_mem_cons.mpr ⟨b_13 a9, List.forall_mem_cons.mpr ⟨b_14 a11, List.forall_mem_cons.mpr ⟨b_15 a13, List.forall_mem_cons.mpr ⟨b_16 a19, List.forall_mem_cons.mpr ⟨b_17 a20, List.forall_mem_cons.mpr ⟨b_18 a23, List.forall_mem_cons.mpr ⟨b_19 a26, List.forall_mem_cons.mpr ⟨b_20 a32, List.forall_mem_cons.mpr ⟨b_21 a27, List.forall_mem_cons.mpr ⟨b_22 a28, List.forall_mem_cons.mpr ⟨b_23 a2, List.forall_mem_cons.mpr ⟨b_24 a3, List.forall_mem_cons.mpr ⟨b_25 a5, List.forall_mem_cons.mpr ⟨b_26 a25, List.forall_mem_cons.mpr ⟨b_27 a33, List.forall_mem_cons.mpr ⟨b_28 a15, List.forall_mem_cons.mpr ⟨b_29 a17, List.forall_mem_cons.mpr ⟨b_30 a31, List.forall_mem_cons.mpr ⟨b_31 a4, List.forall_mem_cons.mpr ⟨b_32 a24, List.forall_mem_cons.mpr ⟨b_33 a15, List.forall_mem_cons.mpr ⟨b_34 a17, List.forall_mem_cons.mpr ⟨b_35 a17, List.forall_mem_cons.mpr ⟨b_36 a17, List.forall_mem_cons.mpr ⟨b_37 a1, List.forall_mem_cons.mpr ⟨b_38 a34, List.forall_mem_cons.mpr ⟨b_39 a29, List.forall_mem_nil _⟩⟩⟩⟩⟩⟩⟩⟩⟩⟩⟩⟩⟩⟩⟩⟩⟩⟩⟩⟩⟩⟩⟩⟩⟩⟩⟩⟩⟩⟩⟩⟩⟩⟩⟩⟩⟩⟩⟩⟩
    exact all (f, m, ks) (List.contains_iff_mem.mp h2) g ps h1 h3
end
abbrev R : PySem.W.OpenRow := PySem.W.OpenLaw.row PySem.Challenge.rw_gateslack_k24_slacks_along_paths
abbrev hk : PySem.W.Hook := He.hookD 4 fa fn
def ob (s : PySem.W.SharedT) : He.AlD := He.obsDG 4 fa fn (HandSHeadRun.getT s)
theorem ob_eq (s : PySem.W.SharedT) : ob s = hk.obs s.abs := He.obsDG_eq (HandSHeadRun.getT_eq s)
def loose : List Str := (["TimingError", "BadClock", "BadPath", "BadCheck", "NotThere", "NoCorner", "MOST", "SMALL", "MOST_LETTERS", "is_whole", "is_name", "starts_of", "ends_of", "corners_of", "feeding", "is_path", "need_path", "MOST_PERIOD", "MOST_SHIFT", "are_skews"] : List Str) ++ (["is_clock", "need_clock", "is_corner", "need_corner", "fits_end", "sums_along", "delays_of", "slack_by", "slack_along", "_law_begin", "_law_mixed", "_law_next", "_law_names", "_law_picked", "_law_delays", "_law_gate", "_law_many", "_law_register", "_law_netlist", "_law_clock"] : List Str) ++ (["_law_ways", "_law_sums", "_law_slack", "_law_corners", "_law_checks", "_law_way_right"] : List Str)
theorem topRun (w : World) : HandSHeadRun.RunEq R (PySem.W.view R.prog [52]) hk ob 4000 loose w := by
  intro os
  kernel_rfl
/-- the law, from the evaluator's answer -/
theorem holds_of (main : ∀ ns : List Int, ns.length ≤ 63 → GS.run prog 60 "law" [.d (.list (ns.map PyData.int))] = .ok (.d (.bool true)) none) : PySem.Challenge.rw_gateslack_k24_slacks_along_paths.Holds := by
  w_on; o_law
  refine HandSHeadRun.head_any (r := R) (q := PySem.W.view R.prog [52]) (H := hk) (ob := ob) (M := 4000) (loose := loose) (d := HandSHeadRun.topDef R.prog 52) (kwd := []) ob_eq
    (by kernel_rfl) (fun s => by kernel_rfl) topRun (by kernel_rfl) (by kernel_rfl) (by kernel_rfl) (by rfl) (by first | assumption | decide +kernel) (by decide +kernel) ⟨rfl, rfl, rfl, rfl, rfl, by decide +kernel⟩ ?hw ?hc
  case hw => w_witness2
  case hc =>
    refine walk_law (l := PySem.Challenge.rw_gateslack_k24_slacks_along_paths) (n := 63) (k := 60) (x := "script") rfl (by decide +kernel) (by kernel_rfl) ⟨rfl, by decide, by decide⟩ ?_
    intro w mg f h Y G hmg
    obtain ⟨K, kin, c⟩ := Y
    have W := wld kin G c
    obtain ⟨fd, F⟩ := c.def_ 35 (d := h_law) rfl
    have at_ : mg ("law" : Str) = some (.ref f) := by
      have e : (HandSHeadRun.topDef R.prog 52).name = ("law" : Str) := by kernel_rfl
      rw [← e]
      exact hmg
    have e := at_.symm.trans (He.glo_ok kin G (c.fact 35 (f := .glo "law") rfl))
    cases e
    refine ⟨K, fd, GS.run prog 60 "law", kin, fun s u => ?_, main, fun base => levels W 60 d_law (by simp [ds]) F⟩
    exact FunD.bindsA (ps := ["script"]) F (fun _ _ _ _ _ _ us hl => match us, hl with | [_], _ => rfl) s [u] rfl
end K24

/-! ND0: the cores of defs that many laws share (printed by nd.py from their texts). -/
namespace ND
open PySem GS
def k_law_begin : CSs := (.cons (.ret (.dic [.str ("cells" : Str), .str ("at" : Str), .str ("left" : Str), .str ("used" : Str)] (.cons (.bin .Add (.var 0) (.lst (.cons (.con (.int (0))) .nil))) (.cons (.con (.int (0))) (.cons (.con (.int (0))) (.cons (.con (.int (0))) .nil)))))) .nil)
def k_law_mixed : CSs := (.cons (.set 2 (.bin .Mod (.bin .Add (.bin .Add (.bin .Add (.bin .Mod (.var 0) (.con (.int (1000000007)))) (.bin .Mult (.bin .Mult (.con (.int (7919))) (.var 1)) (.var 1))) (.bin .Mult (.con (.int (31))) (.var 1))) (.con (.int (7)))) (.con (.int (2147483647))))) (.cons (.set 2 (.bin .Mod (.bin .Mult (.bin .Mod (.bin .Mult (.var 2) (.var 2)) (.con (.int (2147483647)))) (.var 2)) (.con (.int (2147483629))))) (.cons (.ret (.bin .FloorDiv (.bin .Mod (.bin .Mult (.var 2) (.bin .Add (.con (.int (69621))) (.bin .Mult (.con (.int (2))) (.bin .Mod (.var 1) (.con (.int (1000))))))) (.con (.int (2147483647)))) (.con (.int (7))))) .nil)))
def k_law_next : CSs := (.cons (.ife (.cmp .Gt (.idx (.var 0) (.con (.str ("left" : Str)))) (.con (.int (0)))) (.cons (.set 2 (.bin .Mod (.idx (.var 0) (.con (.str ("left" : Str)))) (.var 1))) (.cons (.dput 0 (.con (.str ("left" : Str))) (.bin .FloorDiv (.idx (.var 0) (.con (.str ("left" : Str)))) (.var 1))) (.cons (.ret (.var 2)) .nil))) .nil) (.cons (.set 3 (.idx (.var 0) (.con (.str ("cells" : Str))))) (.cons (.set 4 (.idx (.var 3) (.bin .Mod (.idx (.var 0) (.con (.str ("at" : Str)))) (.bi "len" (.cons (.var 3) .nil))))) (.cons (.dput 0 (.con (.str ("at" : Str))) (.bin .Add (.idx (.var 0) (.con (.str ("at" : Str)))) (.con (.int (1))))) (.cons (.ife (.and (.cmp .GtE (.var 4) (.bin .Pow (.con (.int (10))) (.con (.int (18))))) (.cmp .LtE (.idx (.var 0) (.con (.str ("at" : Str)))) (.bi "len" (.cons (.var 3) .nil)))) (.cons (.dput 0 (.con (.str ("left" : Str))) (.bin .FloorDiv (.var 4) (.var 1))) (.cons (.ret (.bin .Mod (.var 4) (.var 1))) .nil)) .nil) (.cons (.dput 0 (.con (.str ("used" : Str))) (.bin .Add (.idx (.var 0) (.con (.str ("used" : Str)))) (.con (.int (1))))) (.cons (.ret (.bin .Mod (.call ("_law_mixed" : Str) (.cons (.call ("_law_mixed" : Str) (.cons (.var 4) (.cons (.idx (.var 0) (.con (.str ("at" : Str)))) .nil)) [.pos 0, .pos 1]) (.cons (.idx (.var 0) (.con (.str ("used" : Str)))) .nil)) [.pos 0, .pos 1]) (.var 1))) .nil)))))))
def q_law_names_0 : GS.CE := .comp [8] (.nm 8) (.rng1 (.var 4)) .nil (.idx (.var 2) (.call ("_law_next" : Str) (.cons (.var 0) (.cons (.con (.int (26))) .nil)) [.io 0, .pos 1]))
def q_law_names_1 : GS.CE := .comp [8] (.nm 8) (.rng1 (.con (.int (676)))) .nil (.bin .Add (.idx (.var 2) (.bin .FloorDiv (.var 8) (.con (.int (26))))) (.idx (.var 2) (.bin .Mod (.var 8) (.con (.int (26))))))
def q_law_names_2 : GS.CE := .comp [9] (.nm 9) (.v (.var 7)) (.cons (.cmp .NotIn (.var 9) (.var 3)) .nil) (.var 9)
def q_law_names_3 : CS := .whl (.cmp .Lt (.bi "len" (.cons (.var 3) .nil)) (.var 1)) (.cons (.set 4 (.idx (.lst (.cons (.con (.int (1))) (.cons (.bin .Add (.con (.int (1))) (.call ("_law_next" : Str) (.cons (.var 0) (.cons (.con (.int (2))) .nil)) [.io 0, .pos 1])) (.cons (.bin .Add (.con (.int (1))) (.call ("_law_next" : Str) (.cons (.var 0) (.cons (.con (.int (8))) .nil)) [.io 0, .pos 1])) (.cons (.con (.int (8))) .nil))))) (.call ("_law_next" : Str) (.cons (.var 0) (.cons (.con (.int (4))) .nil)) [.io 0, .pos 1]))) (.cons (.set 5 (.meth "join" (.con (.str ("" : Str))) (.cons q_law_names_0 .nil))) (.cons (.ife (.cmp .Eq (.call ("_law_next" : Str) (.cons (.var 0) (.cons (.con (.int (9))) .nil)) [.io 0, .pos 1]) (.con (.int (0)))) (.cons (.set 6 (.meth "split" (.con (.str ("not and nand or nor xor late early low high cut ask input gate clock" : Str))) (.cons (.con (.str (" " : Str))) .nil))) (.cons (.set 5 (.idx (.var 6) (.call ("_law_next" : Str) (.cons (.var 0) (.cons (.con (.int (15))) .nil)) [.io 0, .pos 1]))) .nil)) .nil) (.cons (.ife (.cmp .In (.var 5) (.var 3)) (.cons (.set 7 q_law_names_1) (.cons (.set 5 (.idx q_law_names_2 (.call ("_law_next" : Str) (.cons (.var 0) (.cons (.con (.int (600))) .nil)) [.io 0, .pos 1]))) .nil)) .nil) (.cons (.ex (.mut "append" 3 (.cons (.var 5) .nil))) .nil)))))
def k_law_names : CSs := (.cons (.set 2 (.con (.str ("abcdefghijklmnopqrstuvwxyz" : Str)))) (.cons (.set 3 (.lst .nil)) (.cons q_law_names_3 (.cons (.ret (.var 3)) .nil))))
def q_law_picked_0 : CS := .whl (.and (.cmp .NotEq (.var 3) (.lst .nil)) (.cmp .Lt (.bi "len" (.cons (.var 4) .nil)) (.var 2))) (.cons (.ex (.mut "append" 4 (.cons (.mut "pop" 3 (.cons (.call ("_law_next" : Str) (.cons (.var 0) (.cons (.bi "len" (.cons (.var 3) .nil)) .nil)) [.io 0, .pos 1]) .nil)) .nil))) .nil)
def k_law_picked : CSs := (.cons (.par 3 4 (.bi "list" (.cons (.var 1) .nil)) (.lst .nil)) (.cons q_law_picked_0 (.cons (.ret (.var 4)) .nil)))
def q_law_delays_0 : CS := .for_ (.nm 3) (.rng1 (.var 1)) (.cons (.set 4 (.idx (.lst (.cons (.call ("_law_next" : Str) (.cons (.var 0) (.cons (.con (.int (9))) .nil)) [.io 0, .pos 1]) (.cons (.call ("_law_next" : Str) (.cons (.var 0) (.cons (.con (.int (1000))) .nil)) [.io 0, .pos 1]) (.cons (.con (.int (0))) (.cons (.con (.int (999))) .nil))))) (.call ("_law_next" : Str) (.cons (.var 0) (.cons (.con (.int (4))) .nil)) [.io 0, .pos 1]))) (.cons (.ex (.mut "append" 2 (.cons (.tup (.cons (.idx (.lst (.cons (.call ("_law_next" : Str) (.cons (.var 0) (.cons (.bin .Add (.var 4) (.con (.int (1)))) .nil)) [.io 0, .pos 1]) (.cons (.var 4) (.cons (.con (.int (0))) .nil)))) (.call ("_law_next" : Str) (.cons (.var 0) (.cons (.con (.int (3))) .nil)) [.io 0, .pos 1])) (.cons (.var 4) .nil))) .nil))) .nil))
def k_law_delays : CSs := (.cons (.set 2 (.lst .nil)) (.cons q_law_delays_0 (.cons (.ret (.bi "tuple" (.cons (.var 2) .nil))) .nil)))
def k_law_gate : CSs := (.cons (.set 4 (.slc (.var 2) (.cons (.bin .Sub (.bin .Sub (.con (.int (0))) (.con (.int (1)))) (.call ("_law_next" : Str) (.cons (.var 0) (.cons (.bi "len" (.cons (.var 2) .nil)) .nil)) [.io 0, .pos 1])) .nil) .nil)) (.cons (.set 5 (.idx (.lst (.cons (.con (.str ("not" : Str))) (.cons (.con (.str ("and" : Str))) (.cons (.con (.str ("nand" : Str))) (.cons (.con (.str ("or" : Str))) (.cons (.con (.str ("nor" : Str))) (.cons (.con (.str ("xor" : Str))) .nil))))))) (.call ("_law_next" : Str) (.cons (.var 0) (.cons (.con (.int (6))) .nil)) [.io 0, .pos 1]))) (.cons (.set 6 (.ite (.cmp .Eq (.var 5) (.con (.str ("not" : Str)))) (.con (.int (1))) (.bin .Add (.con (.int (2))) (.bi "int" (.cons (.cmp .Eq (.call ("_law_next" : Str) (.cons (.var 0) (.cons (.con (.int (3))) .nil)) [.io 0, .pos 1]) (.con (.int (0)))) .nil))))) (.cons (.set 7 (.call ("_law_picked" : Str) (.cons (.var 0) (.cons (.ite (.cmp .GtE (.bi "len" (.cons (.var 4) .nil)) (.var 6)) (.var 4) (.var 2)) (.cons (.var 6) .nil))) [.io 0, .pos 1, .pos 2])) (.cons (.ife (.cmp .Eq (.bi "len" (.cons (.var 7) .nil)) (.con (.int (1)))) (.cons (.set 5 (.con (.str ("not" : Str)))) .nil) .nil) (.cons (.ret (.tup (.cons (.var 1) (.cons (.var 5) (.cons (.bi "tuple" (.cons (.var 7) .nil)) (.cons (.call ("_law_delays" : Str) (.cons (.var 0) (.cons (.var 3) .nil)) [.io 0, .pos 1]) .nil)))))) .nil))))))
def q_law_many_0 : CS := .for_ (.nm 4) (.v (.var 2)) (.cons (.dput 3 (.var 4) (.con (.int (1)))) .nil)
def q_law_many_1 : GS.CE := .comp [6] (.nm 6) (.v (.idx (.var 5) (.con (.int (2))))) .nil (.idx (.var 3) (.var 6))
def q_law_many_2 : CS := .for_ (.nm 5) (.v (.var 0)) (.cons (.dput 3 (.idx (.var 5) (.con (.int (0)))) (.bi "sum" (.cons q_law_many_1 .nil))) .nil)
def q_law_many_3 : GS.CE := .comp [4] (.nm 4) (.v (.var 1)) .nil (.idx (.var 3) (.var 4))
def k_law_many : CSs := (.cons (.set 3 (.dic [] .nil)) (.cons q_law_many_0 (.cons q_law_many_2 (.cons (.ret (.bi "sum" (.cons q_law_many_3 .nil))) .nil))))
def k_law_register : CSs := (.cons (.par 3 4 (.idx (.lst (.cons (.call ("_law_next" : Str) (.cons (.var 0) (.cons (.con (.int (9))) .nil)) [.io 0, .pos 1]) (.cons (.call ("_law_next" : Str) (.cons (.var 0) (.cons (.con (.int (1000))) .nil)) [.io 0, .pos 1]) .nil))) (.call ("_law_next" : Str) (.cons (.var 0) (.cons (.con (.int (2))) .nil)) [.io 0, .pos 1])) (.call ("_law_next" : Str) (.cons (.var 0) (.cons (.con (.int (12))) .nil)) [.io 0, .pos 1])) (.cons (.set 5 (.bin .Sub (.con (.int (0))) (.idx (.lst (.cons (.call ("_law_next" : Str) (.cons (.var 0) (.cons (.con (.int (1000))) .nil)) [.io 0, .pos 1]) (.cons (.call ("_law_next" : Str) (.cons (.var 0) (.cons (.con (.int (9))) .nil)) [.io 0, .pos 1]) (.cons (.con (.int (0))) .nil)))) (.call ("_law_next" : Str) (.cons (.var 0) (.cons (.con (.int (3))) .nil)) [.io 0, .pos 1])))) (.cons (.ret (.tup (.cons (.var 1) (.cons (.var 2) (.cons (.var 3) (.cons (.var 4) (.cons (.var 5) (.cons (.idx (.lst (.cons (.call ("_law_next" : Str) (.cons (.var 0) (.cons (.con (.int (1000))) .nil)) [.io 0, .pos 1]) (.cons (.call ("_law_next" : Str) (.cons (.var 0) (.cons (.con (.int (9))) .nil)) [.io 0, .pos 1]) (.cons (.con (.int (0))) .nil)))) (.call ("_law_next" : Str) (.cons (.var 0) (.cons (.con (.int (3))) .nil)) [.io 0, .pos 1])) .nil)))))))) .nil)))
def q_law_netlist_0 : GS.CE := .comp [17] (.nm 17) (.v (.var 8)) .nil (.idx (.var 17) (.con (.int (0))))
def q_law_netlist_1 : GS.CE := .comp [18] (.nm 18) (.rng1 (.bin .Add (.var 3) (.var 4))) .nil (.idx (.var 12) (.call ("_law_next" : Str) (.cons (.var 0) (.cons (.bi "len" (.cons (.var 12) .nil)) .nil)) [.io 0, .pos 1]))
def q_law_netlist_2 : GS.CE := .comp [19] (.nm 19) (.v (.var 10)) .nil (.ite (.cmp .Eq (.call ("_law_next" : Str) (.cons (.var 0) (.cons (.con (.int (3))) .nil)) [.io 0, .pos 1]) (.con (.int (0)))) (.var 11) (.var 19))
def q_law_netlist_3 : CS := .for_ (.nm 11) (.v (.slc (.var 6) (.cons (.bin .Add (.bin .Add (.var 2) (.var 3)) (.var 4)) .nil) .nil)) (.cons (.set 12 (.bin .Add (.var 7) q_law_netlist_0)) (.cons (.set 13 (.bin .Add (.var 8) (.lst (.cons (.call ("_law_gate" : Str) (.cons (.var 0) (.cons (.var 11) (.cons (.var 12) (.cons (.var 5) .nil)))) [.io 0, .pos 1, .pos 2, .pos 3]) .nil)))) (.cons (.ife (.cmp .Eq (.var 8) (.lst .nil)) (.cons (.set 10 q_law_netlist_1) .nil) .nil) (.cons (.set 14 q_law_netlist_2) (.cons (.ife (.cmp .LtE (.call ("_law_many" : Str) (.cons (.var 13) (.cons (.var 14) (.cons (.var 7) .nil))) [.pos 0, .pos 1, .pos 2]) (.con (.int (60)))) (.cons (.par 8 10 (.var 13) (.var 14)) .nil) .nil) .nil)))))
def q_law_netlist_4 : GS.CE := .comp [18] (.nm 18) (.rng1 (.var 3)) .nil (.call ("_law_register" : Str) (.cons (.var 0) (.cons (.idx (.var 7) (.bin .Add (.var 2) (.var 18))) (.cons (.idx (.var 10) (.var 18)) .nil))) [.io 0, .pos 1, .pos 2])
def q_law_netlist_5 : GS.CE := .comp [18] (.nm 18) (.rng1 (.var 4)) .nil (.tup (.cons (.idx (.var 9) (.var 18)) (.cons (.idx (.var 10) (.bin .Add (.var 3) (.var 18))) .nil)))
def k_law_netlist : CSs := (.cons (.par 2 3 (.call ("_law_next" : Str) (.cons (.var 0) (.cons (.con (.int (6))) .nil)) [.io 0, .pos 1]) (.call ("_law_next" : Str) (.cons (.var 0) (.cons (.con (.int (5))) .nil)) [.io 0, .pos 1])) (.cons (.set 2 (.ite (.cmp .Gt (.bin .Add (.var 2) (.var 3)) (.con (.int (0)))) (.bi "min" (.cons (.var 2) (.cons (.bin .Sub (.con (.int (6))) (.var 3)) .nil))) (.con (.int (1))))) (.cons (.par 4 5 (.call ("_law_next" : Str) (.cons (.var 0) (.cons (.con (.int (5))) .nil)) [.io 0, .pos 1]) (.bin .Add (.con (.int (1))) (.call ("_law_next" : Str) (.cons (.var 0) (.cons (.con (.int (3))) .nil)) [.io 0, .pos 1]))) (.cons (.set 6 (.call ("_law_names" : Str) (.cons (.var 0) (.cons (.bin .Add (.bin .Add (.bin .Add (.var 2) (.var 3)) (.var 4)) (.var 1)) .nil)) [.io 0, .pos 1])) (.cons (.par 7 8 (.slc (.var 6) .nil (.cons (.bin .Add (.var 2) (.var 3)) .nil)) (.lst .nil)) (.cons (.set 9 (.slc (.var 6) (.cons (.bin .Add (.var 2) (.var 3)) .nil) (.cons (.bin .Add (.bin .Add (.var 2) (.var 3)) (.var 4)) .nil))) (.cons (.set 10 (.rep (.slc (.var 7) .nil (.cons (.con (.int (1))) .nil)) (.bin .Add (.var 3) (.var 4)))) (.cons q_law_netlist_3 (.cons (.set 15 q_law_netlist_4) (.cons (.set 16 q_law_netlist_5) (.cons (.ret (.tup (.cons (.bi "tuple" (.cons (.slc (.var 7) .nil (.cons (.var 2) .nil)) .nil)) (.cons (.bi "tuple" (.cons (.call ("_law_picked" : Str) (.cons (.var 0) (.cons (.var 8) (.cons (.bi "len" (.cons (.var 8) .nil)) .nil))) [.io 0, .pos 1, .pos 2]) .nil)) (.cons (.bi "tuple" (.cons (.var 15) .nil)) (.cons (.bi "tuple" (.cons (.var 16) .nil)) .nil)))))) .nil)))))))))))
/-- the program has these defs -/
structure Has (p : Prog) : Prop where
  f_law_begin : p.fs "_law_begin" = some ⟨1, 1, none, k_law_begin⟩
  f_law_mixed : p.fs "_law_mixed" = some ⟨3, 2, none, k_law_mixed⟩
  f_law_next : p.fs "_law_next" = some ⟨5, 2, some 0, k_law_next⟩
  f_law_names : p.fs "_law_names" = some ⟨10, 2, some 0, k_law_names⟩
  f_law_picked : p.fs "_law_picked" = some ⟨5, 3, some 0, k_law_picked⟩
  f_law_delays : p.fs "_law_delays" = some ⟨5, 2, some 0, k_law_delays⟩
  f_law_gate : p.fs "_law_gate" = some ⟨8, 4, some 0, k_law_gate⟩
  f_law_many : p.fs "_law_many" = some ⟨7, 3, none, k_law_many⟩
  f_law_register : p.fs "_law_register" = some ⟨6, 3, some 0, k_law_register⟩
  f_law_netlist : p.fs "_law_netlist" = some ⟨20, 2, some 0, k_law_netlist⟩

  loop : p.Λ = whileW
end ND

/-! ND1: the draws, for any program that has the shared defs. -/
namespace ND
open PySem GS
section
variable {p : Prog}
/-! ### the draw -/
structure Dr where
  cells : List Int
  at_ : Int
  left : Int
  used : Int
def Dr.kv (d : Dr) : List (D × D) := [(.str "cells", .list (d.cells.map .int)), (.str "at", .int d.at_), (.str "left", .int d.left), (.str "used", .int d.used)]
def Dr.ob (d : Dr) : Ob := .dic d.kv
theorem g_cells (d : Dr) : idxD (.dict d.kv) (.str "cells") = some (.list (d.cells.map .int)) := by rfl
theorem g_at (d : Dr) : idxD (.dict d.kv) (.str "at") = some (.int d.at_) := by rfl
theorem g_left (d : Dr) : idxD (.dict d.kv) (.str "left") = some (.int d.left) := by rfl
theorem g_used (d : Dr) : idxD (.dict d.kv) (.str "used") = some (.int d.used) := by rfl
theorem p_at (d : Dr) (x : Int) : mutD "setitem" (.dic d.kv) [.str "at", .int x] = some (.none, .dic { d with at_ := x }.kv) := by rfl
theorem p_left (d : Dr) (x : Int) : mutD "setitem" (.dic d.kv) [.str "left", .int x] = some (.none, .dic { d with left := x }.kv) := by rfl
theorem p_used (d : Dr) (x : Int) : mutD "setitem" (.dic d.kv) [.str "used", .int x] = some (.none, .dic { d with used := x }.kv) := by rfl
structure Dr.Ok (d : Dr) (b : Int) : Prop where
  ne : d.cells ≠ []
  sz : d.cells.length ≤ 64
  a0 : 0 ≤ d.at_
  a1 : d.at_ ≤ b
  l0 : 0 ≤ d.left
  u0 : 0 ≤ d.used
  u1 : d.used ≤ b
theorem r_mixed (N : Has p) (k : Nat) (c m : Int) (hm : 0 ≤ m) (hm2 : m < 2 ^ 40) : ∃ v, run p (k + 1) "_law_mixed" [.d (.int c), .d (.int m)] = .ok (.d (.int v)) none ∧ 0 ≤ v := by
  have m1 : mulOk 7919 m = true := by unfold mulOk; simp
  have m2 : mulOk (7919 * m) m = true := by unfold mulOk; simp; right; omega
  have m3 : mulOk 31 m = true := by unfold mulOk; simp
  generalize hn : ((c % 1000000007 + 7919 * m * m + 31 * m + 7) % 2147483647) = n
  have n0 : 0 ≤ n := by omega
  have n1 : n < 2147483647 := by omega
  have m4 : mulOk n n = true := by unfold mulOk; simp; omega
  have m5 : mulOk (n * n % 2147483647) n = true := by unfold mulOk; simp; right; omega
  generalize hq : (n * n % 2147483647 * n % 2147483629) = q
  have q0 : 0 ≤ q := by omega
  have q1 : q < 2147483629 := by omega
  have m6 : mulOk 2 (m % 1000) = true := by unfold mulOk; simp
  have m7 : mulOk q (69621 + 2 * (m % 1000)) = true := by unfold mulOk; simp; left; omega
  refine ⟨q * (69621 + 2 * (m % 1000)) % 2147483647 / 7, ?_, by omega⟩
  rw [run_at N.f_law_mixed]
  simp [GS.ioFits, GS.startS, GS.slOf, List.range, List.range.loop, GS.exB, GS.exS, GS.ev, GS.evs, GS.evT, GS.evB, GS.evI, GS.bind_ok, GS.opt_some, GS.retV, GS.endF, GS.outOf, GS.RV.opd, GS.Opd.get, GS.getAll, GS.isiD, GS.isFnD, GS.tyD, GS.truD, GS.cmpD, GS.binD, GS.putV, GS.putS, GS.frz, GS.frzL, GS.isIo, GS.biD, GS.D.len, GS.argsOf, GS.frzA, GS.getV, GS.lentOf, GS.outTo, GS.flatR, GS.ownAt, GS.setOb, GS.isOwn, GS.wipeC, GS.wipeS, GS.backS, GS.tgIn, GS.noX, GS.itemsD, GS.Ob.toD, GS.isNonD, GS.ltD, k_law_mixed, m1, m2, m3, hn, m4, m5, hq, m6, m7]
theorem at_cell {d : Dr} {b : Int} (h : d.Ok b) : ∃ c, idxD (.list (d.cells.map .int)) (.int (d.at_ % (d.cells.length : Int))) = some (.int c) := by
  have hn : 0 < d.cells.length := List.length_pos_iff.mpr h.ne
  have h1 : 0 ≤ d.at_ % (d.cells.length : Int) := Int.emod_nonneg _ (by omega)
  have h2 : d.at_ % (d.cells.length : Int) < (d.cells.length : Int) := Int.emod_lt_of_pos _ (by omega)
  obtain ⟨j, hj⟩ : ∃ j : Nat, (j : Int) = d.at_ % (d.cells.length : Int) := ⟨_, Int.toNat_of_nonneg h1⟩
  have hl : j < d.cells.length := by omega
  refine ⟨d.cells[j], ?_⟩
  rw [← hj]
  exact L2.atI_nat (by rw [List.getElem?_map, List.getElem?_eq_getElem hl]; rfl)
theorem r_next (N : Has p) (k : Nat) (d : Dr) (b : Int) (h : d.Ok b) (hb : b < 2 ^ 39) (m : Int) (m0 : 0 < m) (m1 : m < 1073741824) :
    ∃ (v : Int) (d' : Dr), run p (k + 2) "_law_next" [.io d.ob, .d (.int m)] = .ok (.d (.int v)) (some d'.ob) ∧ 0 ≤ v ∧ v < m ∧ d'.Ok (b + 1) := by
  have hm0 := m0
  by_cases hl : 0 < d.left
  · refine ⟨d.left % m, { d with left := d.left / m }, ?_, Int.emod_nonneg _ (by omega), Int.emod_lt_of_pos _ m0, h.ne, h.sz, h.a0, ?_, Int.ediv_nonneg h.l0 (by omega), h.u0, ?_⟩
    · rw [run_at N.f_law_next]
      simp [GS.ioFits, GS.startS, GS.slOf, List.range, List.range.loop, GS.exB, GS.exS, GS.ev, GS.evs, GS.evT, GS.evB, GS.evI, GS.bind_ok, GS.opt_some, GS.retV, GS.endF, GS.outOf, GS.RV.opd, GS.Opd.get, GS.getAll, GS.isiD, GS.isFnD, GS.tyD, GS.truD, GS.cmpD, GS.binD, GS.putV, GS.putS, GS.frz, GS.frzL, GS.isIo, GS.biD, GS.D.len, GS.argsOf, GS.frzA, GS.getV, GS.lentOf, GS.outTo, GS.flatR, GS.ownAt, GS.setOb, GS.isOwn, GS.wipeC, GS.wipeS, GS.backS, GS.tgIn, GS.noX, GS.itemsD, GS.Ob.toD, GS.isNonD, GS.ltD, k_law_next, Dr.ob, g_left, p_left, hl, m0, m1]
    · show d.at_ ≤ b + 1; have := h.a1; omega
    · show d.used ≤ b + 1; have := h.u1; omega
  · obtain ⟨c, hc⟩ := at_cell h
    have hn : 0 < d.cells.length := List.length_pos_iff.mpr h.ne
    have ha := h.a0; have ha1 := h.a1; have hu := h.u0; have hu1 := h.u1
    by_cases hbig : 1000000000000000000 ≤ c ∧ d.at_ + 1 ≤ (d.cells.length : Int)
    · refine ⟨c % m, { d with at_ := d.at_ + 1, left := c / m }, ?_, Int.emod_nonneg _ (by omega), Int.emod_lt_of_pos _ m0, h.ne, h.sz, ?_, ?_, Int.ediv_nonneg (by omega) (by omega), h.u0, ?_⟩
      · rw [run_at N.f_law_next]
        have p1 := p_at d (d.at_ + 1)
        have p2 := p_left { d with at_ := d.at_ + 1 } (c / m)
        simp [GS.ioFits, GS.startS, GS.slOf, List.range, List.range.loop, GS.exB, GS.exS, GS.ev, GS.evs, GS.evT, GS.evB, GS.evI, GS.bind_ok, GS.opt_some, GS.retV, GS.endF, GS.outOf, GS.RV.opd, GS.Opd.get, GS.getAll, GS.isiD, GS.isFnD, GS.tyD, GS.truD, GS.cmpD, GS.binD, GS.putV, GS.putS, GS.frz, GS.frzL, GS.isIo, GS.biD, GS.D.len, GS.argsOf, GS.frzA, GS.getV, GS.lentOf, GS.outTo, GS.flatR, GS.ownAt, GS.setOb, GS.isOwn, GS.wipeC, GS.wipeS, GS.backS, GS.tgIn, GS.noX, GS.itemsD, GS.Ob.toD, GS.isNonD, GS.ltD, k_law_next, Dr.ob, g_left, g_cells, g_at, hl, m0, m1, hc, hbig.1, hbig.2, hn, p1, p2]
      · show 0 ≤ d.at_ + 1; omega
      · show d.at_ + 1 ≤ b + 1; omega
      · show d.used ≤ b + 1; omega
    · obtain ⟨v1, e1, w1⟩ := r_mixed N k c (d.at_ + 1) (by omega) (by omega)
      obtain ⟨v2, e2, w2⟩ := r_mixed N k v1 (d.used + 1) (by omega) (by omega)
      refine ⟨v2 % m, { d with at_ := d.at_ + 1, used := d.used + 1 }, ?_, Int.emod_nonneg _ (by omega), Int.emod_lt_of_pos _ m0, h.ne, h.sz, ?_, ?_, h.l0, ?_, ?_⟩
      · rw [run_at N.f_law_next]
        have p1 := p_at d (d.at_ + 1)
        have p2 := p_used { d with at_ := d.at_ + 1 } (d.used + 1)
        have g1 := g_at { d with at_ := d.at_ + 1 }
        have g2 := g_used { d with at_ := d.at_ + 1 }
        have g3 := g_used { d with at_ := d.at_ + 1, used := d.used + 1 }
        have g4 := g_at { d with at_ := d.at_ + 1, used := d.used + 1 }
        by_cases h1 : 1000000000000000000 ≤ c
        · have h2 : ¬ d.at_ + 1 ≤ (d.cells.length : Int) := fun z => hbig ⟨h1, z⟩
          simp [GS.ioFits, GS.startS, GS.slOf, List.range, List.range.loop, GS.exB, GS.exS, GS.ev, GS.evs, GS.evT, GS.evB, GS.evI, GS.bind_ok, GS.opt_some, GS.retV, GS.endF, GS.outOf, GS.RV.opd, GS.Opd.get, GS.getAll, GS.isiD, GS.isFnD, GS.tyD, GS.truD, GS.cmpD, GS.binD, GS.putV, GS.putS, GS.frz, GS.frzL, GS.isIo, GS.biD, GS.D.len, GS.argsOf, GS.frzA, GS.getV, GS.lentOf, GS.outTo, GS.flatR, GS.ownAt, GS.setOb, GS.isOwn, GS.wipeC, GS.wipeS, GS.backS, GS.tgIn, GS.noX, GS.itemsD, GS.Ob.toD, GS.isNonD, GS.ltD, k_law_next, Dr.ob, g_left, g_cells, g_at, hl, m0, m1, hc, h1, h2, hn, p1, p2, g1, g2, g3, g4, e1, e2]
        · simp [GS.ioFits, GS.startS, GS.slOf, List.range, List.range.loop, GS.exB, GS.exS, GS.ev, GS.evs, GS.evT, GS.evB, GS.evI, GS.bind_ok, GS.opt_some, GS.retV, GS.endF, GS.outOf, GS.RV.opd, GS.Opd.get, GS.getAll, GS.isiD, GS.isFnD, GS.tyD, GS.truD, GS.cmpD, GS.binD, GS.putV, GS.putS, GS.frz, GS.frzL, GS.isIo, GS.biD, GS.D.len, GS.argsOf, GS.frzA, GS.getV, GS.lentOf, GS.outTo, GS.flatR, GS.ownAt, GS.setOb, GS.isOwn, GS.wipeC, GS.wipeS, GS.backS, GS.tgIn, GS.noX, GS.itemsD, GS.Ob.toD, GS.isNonD, GS.ltD, k_law_next, Dr.ob, g_left, g_cells, g_at, hl, m0, m1, hc, h1, hn, p1, p2, g1, g2, g3, g4, e1, e2]
      · show 0 ≤ d.at_ + 1; omega
      · show d.at_ + 1 ≤ b + 1; omega
      · show 0 ≤ d.used + 1; omega
      · show d.used + 1 ≤ b + 1; omega
theorem begin_at (N : Has p) (k : Nat) (ns : List Int) (hl : ns.length ≤ 63) : run p (k + 1) "_law_begin" [.d (.list (ns.map .int))] = .ok (.own (Dr.ob ⟨ns ++ [0], 0, 0, 0⟩)) none := by
  refine run_ex (fun r => r = .ok (.own (Dr.ob ⟨ns ++ [0], 0, 0, 0⟩)) none) N.f_law_begin fun O hΦ hG => ?_
  have hsl : sizeLine = 16777216 := sizeLine_eq
  have l1 : (ns.map PyData.int).length + 1 ≤ 16777216 := by rw [List.length_map]; omega
  have hd : ∀ l : List D, mergeD [] (([.str "cells", .str "at", .str "left", .str "used"] : List D).zip [.list l, .int 0, .int 0, .int 0]) = [(.str "cells", .list l), (.str "at", .int 0), (.str "left", .int 0), (.str "used", .int 0)] := fun _ => rfl
  have hk : ([.str "cells", .str "at", .str "left", .str "used"] : List D).all keyOk = true := rfl
  have ho : Dr.ob ⟨ns ++ [0], 0, 0, 0⟩ = .dic [(.str "cells", .list (ns.map PyData.int ++ [.int 0])), (.str "at", .int 0), (.str "left", .int 0), (.str "used", .int 0)] := by
    unfold Dr.ob Dr.kv
    rw [List.map_append]
    rfl
  rw [ho, ← hd]
  rw [List.length_map] at l1
  simp [GS.ioFits, GS.startS, GS.slOf, List.range, List.range.loop, GS.exB, GS.exS, GS.ev, GS.evs, GS.evT, GS.evB, GS.evI, GS.bind_ok, GS.opt_some, GS.retV, GS.endF, GS.outOf, GS.RV.opd, GS.Opd.get, GS.getAll, GS.isiD, GS.isFnD, GS.tyD, GS.truD, GS.cmpD, GS.binD, GS.putV, GS.putS, GS.frz, GS.frzL, GS.isIo, GS.biD, GS.D.len, GS.argsOf, GS.frzA, GS.getV, GS.lentOf, GS.outTo, GS.flatR, GS.ownAt, GS.setOb, GS.isOwn, GS.wipeC, GS.wipeS, GS.backS, GS.tgIn, GS.noX, GS.itemsD, GS.Ob.toD, GS.isNonD, GS.ltD, k_law_begin, hsl, l1, keyOk]


/-- an oracle that draws -/
structure Draws (O : Ora) : Prop where
  next : ∀ (d : Dr) (b m : Int), d.Ok b → b < 2 ^ 39 → 0 < m → m < 1073741824 → ∃ (v : Int) (d' : Dr), O.Φ "_law_next" [.io d.ob, .d (.int m)] = .ok (.d (.int v)) (some d'.ob) ∧ 0 ≤ v ∧ v < m ∧ d'.Ok (b + 1)
theorem draws (N : Has p) {O : Ora} {k : Nat} (h : O.Φ = run p (k + 2)) : Draws O := ⟨fun d b m h1 h2 h3 h4 => by rw [h]; exact r_next N k d b h1 h2 m h3 h4⟩
theorem Dr.Ok.mono {d : Dr} {b c : Int} (h : d.Ok b) (l : b ≤ c) : d.Ok c := ⟨h.ne, h.sz, h.a0, Int.le_trans h.a1 l, h.l0, h.u0, Int.le_trans h.u1 l⟩
/-- a draw, its bound written out -/
theorem w_next {O : Ora} {s : Ev} {P : RV → Ev → Prop} {E : Xn → Ev → Prop} {a : GS.CE} {d : Dr} {b m : Int} (D : Draws O) (hs : s[0]? = some (.io d.ob)) (hd : d.Ok b) (hb : b < 2 ^ 39) (m0 : 0 < m) (m1 : m < 1073741824)
    (ha : WG (ev O a s) (fun x s1 => x = .d (.int m) ∧ s1 = s) E) (q : ∀ (v : Int) (d' : Dr), 0 ≤ v → v < m → d'.Ok (b + 1) → P (.d (.int v)) (s.set 0 (.io d'.ob))) :
    WG (ev O (.call "_law_next" (.cons (.var 0) (.cons a .nil)) [.io 0, .pos 1]) s) P E := by
  obtain ⟨v, d', e, v0, v1, h'⟩ := D.next d b m hd hb m0 m1
  exact e_call2 hs ha (wpR_of e ⟨_, rfl, q v d' v0 v1 h'⟩)
theorem w_nextc {O : Ora} {s : Ev} {P : RV → Ev → Prop} {E : Xn → Ev → Prop} {d : Dr} {b m : Int} (D : Draws O) (hs : s[0]? = some (.io d.ob)) (hd : d.Ok b) (hb : b < 2 ^ 39) (m0 : 0 < m) (m1 : m < 1073741824)
    (q : ∀ (v : Int) (d' : Dr), 0 ≤ v → v < m → d'.Ok (b + 1) → P (.d (.int v)) (s.set 0 (.io d'.ob))) :
    WG (ev O (.call "_law_next" (.cons (.var 0) (.cons (.con (.int m)) .nil)) [.io 0, .pos 1]) s) P E := w_next D hs hd hb m0 m1 (e_con.mpr ⟨rfl, rfl⟩) q
end
end ND

/-! ND2: delays, registers. -/
namespace ND
open PySem GS
abbrev F0 {α : Type} : α → Option Ob → Prop := fun _ _ => False
section
variable {O : Ora} {s : Ev} {P : RV → Ev → Prop} {E : Xn → Ev → Prop}
theorem frzL_d : ∀ (ds : List D) (s : Ev), frzL (ds.map RV.d) s = .ok ds s
  | [], _ => rfl
  | d :: r, s => by
    show (frz (.d d) s).bind _ = _
    rw [show frz (.d d) s = .ok d s from rfl, bind_ok, frzL_d r s, bind_ok]
theorem idx_pick {ds : List D} {v : Int} (h0 : 0 ≤ v) (h1 : v < ds.length) : ∃ r ∈ ds, idxD (.list ds) (.int v) = some r := by
  obtain ⟨j, rfl⟩ := Int.eq_ofNat_of_zero_le h0
  have hj : j < ds.length := by omega
  exact ⟨ds[j], List.getElem_mem hj, L2.atI_nat (List.getElem?_eq_getElem hj)⟩
theorem sl16 : sizeLine = 16777216 := sizeLine_eq
/-- one of a few, drawn -/
theorem w_pick {es : CEs} {m : Int} (Dw : Draws O) (he : WG (evs O es s) (fun vs s1 => ∃ (ds : List D) (d : Dr) (b : Int), vs = ds.map RV.d ∧ (ds.length : Int) = m ∧ 0 < m ∧ m < 1000000 ∧ s1[0]? = some (.io d.ob) ∧ d.Ok b ∧ b < 2 ^ 39 ∧
      ∀ r ∈ ds, ∀ d' : Dr, d'.Ok (b + 1) → P (.d r) (s1.set 0 (.io d'.ob))) E) : WG (ev O (.idx (.lst es) (.call "_law_next" (.cons (.var 0) (.cons (.con (.int m)) .nil)) [.io 0, .pos 1])) s) P E := by
  refine e_idx.mpr (e_lst.mpr (he.mono (fun vs s1 h => ?_) fun _ _ z => z))
  obtain ⟨ds, d, b, rfl, rfl, m0, m1, hs, hd, hb, q⟩ := h
  rw [frzL_d]
  refine w_ok.mpr ⟨by rw [sl16]; omega, w_nextc Dw hs hd hb m0 (by omega) fun v d' v0 v1 h' => ?_⟩
  obtain ⟨r, hr, e⟩ := idx_pick v0 v1
  exact ⟨_, _, rfl, rfl, r, e, q r hr d' h'⟩
/-- a slot's value -/
theorem put_v {i : Nat} {x : Sl} {d : D} {QU : Unit → Ev → Prop} (hs : s[i]? = some x) (h : isIo (some x) = false) (q : QU () (s.set i (.val d))) : WG (putV i (.d d) s) QU E :=
  p_d (List.getElem?_eq_some_iff.mp hs).1 (by rw [hs]; exact h) q
theorem put_o {i : Nat} {x : Sl} {o : Ob} {QU : Unit → Ev → Prop} (hs : s[i]? = some x) (h : isIo (some x) = false) (q : QU () (s.set i (.own o))) : WG (putV i (.own o) s) QU E :=
  p_o (List.getElem?_eq_some_iff.mp hs).1 (by rw [hs]; exact h) q
theorem bind_nm {i : Nat} {x : Sl} {d : D} {QU : Unit → Ev → Prop} (hs : s[i]? = some x) (h : isIo (some x) = false) (q : QU () (s.set i (.val d))) : WG (bindT (.nm i) d s) QU E := put_v (E := E) hs h q
theorem i_rng1 {a : GS.CE} {Q : List D → Ev → Prop} {n : Nat} (hn : n < 2 ^ 61) (h : WG (ev O a s) (fun x s => x.opd.get s = some (.int n) ∧ Q ((List.range n).map fun (k : Nat) => PyData.int (k : Int)) s) E) : WG (evI O (.rng1 a) s) Q E := by
  refine WG_bind.mpr (h.mono (fun x s ⟨e, q⟩ => ?_) fun _ _ z => z)
  rw [e]
  show WG (if (decide (-(2 ^ 62) ≤ (n : Int)) && decide ((n : Int) < 2 ^ 62)) = true then Rs.ok ((List.range (n : Int).toNat).map fun (k : Nat) => PyData.int (k : Int)) s else .stuck) Q E
  rw [if_pos (by rw [Bool.and_eq_true, decide_eq_true_eq, decide_eq_true_eq]; omega), Int.toNat_natCast]
  exact w_ok.mpr q
end
section
variable {p : Prog}
def pairD (q : Int × Int) : D := .tuple [.int q.1, .int q.2]
def Pair (q : Int × Int) : Prop := 0 ≤ q.1 ∧ q.1 ≤ q.2 ∧ q.2 ≤ 999
theorem r_delays (N : Has p) (k : Nat) (d : Dr) (b : Int) (h : d.Ok b) (c : Nat) (hc : c ≤ 1000) (hb : b < 2 ^ 38)
    {P : RV → Option Ob → Prop} {E : Xn → Option Ob → Prop} (q : ∀ (ps : List (Int × Int)) (d' : Dr), ps.length = c → (∀ q ∈ ps, Pair q) → d'.Ok (b + 5 * c) → P (.d (.tuple (ps.map pairD))) (some d'.ob)) :
    wpR (run p (k + 3) "_law_delays" [.io d.ob, .d (.int c)]) P E := by
  refine wp_run N.f_law_delays rfl fun O hΦ hG hΛ => ?_
  have Dw := draws N hΦ
  show WG (exB O k_law_delays [.io d.ob, .val (.int c), .emp, .emp, .emp]) _ _
  unfold k_law_delays
  refine b_cons.mpr (s_set.mpr (e_lst.mpr (e_nil.mpr (w_frzL (ds := []) ⟨Nat.zero_le _, put_o (x := .emp) rfl rfl ?_⟩))))
  refine b_cons.mpr (s_for (i_rng1 (n := c) (by omega) ((e_val rfl).mpr ⟨rfl, ?_⟩)))
  refine ⟨fun i s => ∃ (ps : List (Int × Int)) (d' : Dr) (x3 x4 : Sl), s = [.io d'.ob, .val (.int c), .own (.lst (ps.map pairD)), x3, x4] ∧ isIo (some x3) = false ∧ isIo (some x4) = false ∧ ps.length = i ∧ (∀ q ∈ ps, Pair q) ∧ d'.Ok (b + 5 * i),
    ?_, fun i x s hx ⟨ps, d1, x3, x4, es, i3, i4, l, ok, h1⟩ => ?_, fun s ⟨ps, d1, x3, x4, es, i3, i4, l, ok, h1⟩ => ?_⟩
  · refine ⟨[], d, .emp, .emp, ?_, rfl, rfl, rfl, (fun _ z => nomatch z), by simpa using h⟩
    rfl
  · subst es
    have hi : i < c := by simpa using (List.getElem?_eq_some_iff.mp hx).1
    refine bind_nm (x := x3) rfl i3 (b_cons.mpr (s_set.mpr (w_pick Dw (e_cons.mpr (w_nextc Dw rfl h1 (by omega) (by decide) (by decide) fun v1 d2 v10 v11 h2 => e_cons.mpr (w_nextc Dw rfl h2 (by omega) (by decide) (by decide) fun v2 d3 v20 v21 h3 =>
      e_cons.mpr (e_con.mpr (e_cons.mpr (e_con.mpr (e_nil.mpr ⟨[.int v1, .int v2, .int 0, .int 999], d3, _, rfl, rfl, by decide, by decide, rfl, h3, by omega, fun r hr d4 h4 => ?_⟩))))))))))
    obtain ⟨lt, rfl, l0, l9⟩ : ∃ lt : Int, r = .int lt ∧ 0 ≤ lt ∧ lt ≤ 999 := by
      simp only [List.mem_cons, List.not_mem_nil, or_false] at hr
      rcases hr with rfl | rfl | rfl | rfl
      · exact ⟨_, rfl, by omega, by omega⟩
      · exact ⟨_, rfl, by omega, by omega⟩
      · exact ⟨_, rfl, by omega, by omega⟩
      · exact ⟨_, rfl, by omega, by omega⟩
    refine put_v (x := x4) rfl i4 (b_cons.mpr (s_ex.mpr (e_mut ⟨rfl, e_cons.mpr (e_tup.mpr (e_cons.mpr (w_pick Dw (e_cons.mpr (w_next Dw rfl h4 (by omega) (show 0 < lt + 1 by omega) (by omega) (e_bin.mpr ((e_val rfl).mpr (e_con.mpr ⟨_, _, rfl, rfl, _, rfl, rfl, rfl⟩))) fun v5 d5 v50 v51 h5 =>
      e_cons.mpr ((e_val rfl).mpr (e_cons.mpr (e_con.mpr (e_nil.mpr ⟨[.int v5, .int lt, .int 0], d5, _, rfl, rfl, by decide, by decide, rfl, h5, by omega, fun r hr d6 h6 => ?_⟩)))))))))⟩)))
    obtain ⟨ey, rfl, e0, e9⟩ : ∃ ey : Int, r = .int ey ∧ 0 ≤ ey ∧ ey ≤ lt := by
      simp only [List.mem_cons, List.not_mem_nil, or_false] at hr
      rcases hr with rfl | rfl | rfl
      · exact ⟨_, rfl, by omega, by omega⟩
      · exact ⟨_, rfl, by omega, by omega⟩
      · exact ⟨_, rfl, by omega, by omega⟩
    refine e_cons.mpr ((e_val rfl).mpr (e_nil.mpr (w_frzL (ds := [.int ey, .int lt]) ⟨two_le, e_nil.mpr (w_frzL (ds := [.tuple [.int ey, .int lt]]) ⟨ps.map pairD, .none, .lst ((ps ++ [(ey, lt)]).map pairD), rfl, ?_, b_nil.mpr ⟨ps ++ [(ey, lt)], d6, _, _, rfl, rfl, rfl, by simp [l], ?_, ?_⟩⟩)⟩)))
    · have hl : (ps.map pairD).length < sizeLine := by rw [List.length_map, l, sl16]; omega
      show (if (ps.map pairD).length < sizeLine then some (PyData.none, Ob.lst (ps.map pairD ++ [.tuple [.int ey, .int lt]])) else none) = _
      rw [if_pos hl, List.map_append]
      rfl
    · intro q hq
      rcases List.mem_append.mp hq with hq | hq
      · exact ok q hq
      · rw [List.mem_singleton.mp hq]; exact ⟨e0, e9, l9⟩
    · refine h6.mono ?_
      omega
  · subst es
    rw [List.length_map, List.length_range] at l h1
    refine b_cons.mpr (s_ret.mpr (e_bi.mpr (e_cons.mpr ((e_own rfl).mpr (e_nil.mpr ⟨.d (.tuple (ps.map pairD)), rfl, ?_⟩)))))
    exact w_retd (q ps d1 l ok h1)
end
end ND

/-! ND3: registers, picked rows. -/
namespace ND
open PySem GS
section
variable {p : Prog}
theorem ints3 {lo hi : Int} {l : List D} {r : D} (h : ∀ x ∈ l, ∃ i : Int, x = .int i ∧ lo ≤ i ∧ i ≤ hi) (hr : r ∈ l) : ∃ i : Int, r = .int i ∧ lo ≤ i ∧ i ≤ hi := h r hr
theorem r_register (N : Has p) (k : Nat) (d : Dr) (b : Int) (h : d.Ok b) (hb : b < 2 ^ 38) (x y : D)
    {P : RV → Option Ob → Prop} {E : Xn → Option Ob → Prop} (q : ∀ (su ho lo hi : Int) (d' : Dr), 0 ≤ su ∧ su ≤ 999 → 0 ≤ ho ∧ ho ≤ 11 → -999 ≤ lo ∧ lo ≤ 0 → 0 ≤ hi ∧ hi ≤ 999 → d'.Ok (b + 11) → P (.d (.tuple [x, y, .int su, .int ho, .int lo, .int hi])) (some d'.ob)) :
    wpR (run p (k + 3) "_law_register" [.io d.ob, .d x, .d y]) P E := by
  refine wp_run N.f_law_register rfl fun O hΦ hG hΛ => ?_
  have Dw := draws N hΦ
  show WG (exB O k_law_register [.io d.ob, .val x, .val y, .emp, .emp, .emp]) _ _
  unfold k_law_register
  refine b_cons.mpr <| s_par.mpr <| w_pick Dw <| e_cons.mpr <| w_nextc Dw rfl h (by omega) (by decide) (by decide) fun v1 d1 v10 v11 h1 => e_cons.mpr <| w_nextc Dw rfl h1 (by omega) (by decide) (by decide) fun v2 d2 v20 v21 h2 =>
    e_nil.mpr ⟨[.int v1, .int v2], d2, _, rfl, rfl, by decide, by decide, rfl, h2, by omega, fun r hr d3 h3 => ?_⟩
  obtain ⟨su, rfl, su0, su9⟩ : ∃ i : Int, r = .int i ∧ 0 ≤ i ∧ i ≤ 999 := by
    simp only [List.mem_cons, List.not_mem_nil, or_false] at hr
    rcases hr with rfl | rfl
    · exact ⟨_, rfl, by omega, by omega⟩
    · exact ⟨_, rfl, by omega, by omega⟩
  refine w_stld <| w_nextc Dw rfl h3 (by omega) (by decide) (by decide) fun ho d4 ho0 ho9 h4 => w_stld <| put_v (x := .emp) rfl rfl <| put_v (x := .emp) rfl rfl ?_
  refine b_cons.mpr <| s_set.mpr <| e_bin.mpr <| e_con.mpr <| w_pick Dw <| e_cons.mpr <| w_nextc Dw rfl h4 (by omega) (by decide) (by decide) fun v1 d1 v10 v11 h1 => e_cons.mpr <| w_nextc Dw rfl h1 (by omega) (by decide) (by decide) fun v2 d2 v20 v21 h2 =>
    e_cons.mpr <| e_con.mpr <| e_nil.mpr ⟨[.int v1, .int v2, .int 0], d2, _, rfl, rfl, by decide, by decide, rfl, h2, by omega, fun r hr d5 h5 => ?_⟩
  obtain ⟨lo, rfl, lo0, lo9⟩ : ∃ i : Int, r = .int i ∧ 0 ≤ i ∧ i ≤ 999 := by
    simp only [List.mem_cons, List.not_mem_nil, or_false] at hr
    rcases hr with rfl | rfl | rfl
    · exact ⟨_, rfl, by omega, by omega⟩
    · exact ⟨_, rfl, by omega, by omega⟩
    · exact ⟨_, rfl, by omega, by omega⟩
  refine ⟨_, _, rfl, rfl, _, rfl, put_v (x := .emp) rfl rfl ?_⟩
  refine b_cons.mpr <| s_ret.mpr <| e_tup.mpr <| e_cons.mpr <| (e_val rfl).mpr <| e_cons.mpr <| (e_val rfl).mpr <| e_cons.mpr <| (e_val rfl).mpr <| e_cons.mpr <| (e_val rfl).mpr <| e_cons.mpr <| (e_val rfl).mpr <| e_cons.mpr <|
    w_pick Dw <| e_cons.mpr <| w_nextc Dw rfl h5 (by omega) (by decide) (by decide) fun v1 d1 v10 v11 h1 => e_cons.mpr <| w_nextc Dw rfl h1 (by omega) (by decide) (by decide) fun v2 d2 v20 v21 h2 =>
    e_cons.mpr <| e_con.mpr <| e_nil.mpr ⟨[.int v1, .int v2, .int 0], d2, _, rfl, rfl, by decide, by decide, rfl, h2, by omega, fun r hr d6 h6 => ?_⟩
  obtain ⟨hi, rfl, hi0, hi9⟩ : ∃ i : Int, r = .int i ∧ 0 ≤ i ∧ i ≤ 999 := by
    simp only [List.mem_cons, List.not_mem_nil, or_false] at hr
    rcases hr with rfl | rfl | rfl
    · exact ⟨_, rfl, by omega, by omega⟩
    · exact ⟨_, rfl, by omega, by omega⟩
    · exact ⟨_, rfl, by omega, by omega⟩
  refine e_nil.mpr (w_frzL (ds := [x, y, .int su, .int ho, .int (0 - lo), .int hi]) ⟨by rw [sl16]; show 6 ≤ 16777216; decide, w_retd ?_⟩)
  exact q su ho (0 - lo) hi d6 ⟨su0, su9⟩ ⟨ho0, by omega⟩ ⟨by omega, by omega⟩ ⟨hi0, hi9⟩ (h6.mono (by omega))
/-! ### rows -/
theorem eqv_nil : ∀ (xs : List D), PyData.eqv (.list xs) (.list []) = xs.isEmpty
  | [] => rfl
  | _ :: _ => rfl
theorem ne_nil {xs : List D} (h : plainA xs = true) : cmpD .NotEq (.list xs) (.list []) = some (!xs.isEmpty) := by
  show (eqD (.list xs) (.list [])).map not = _
  have e : eqD (.list xs) (.list []) = some xs.isEmpty := by
    unfold eqD
    rw [if_pos]
    · rw [eqv_nil]
    · rw [Bool.and_eq_true, Bool.and_eq_true, decide_eq_true_eq]
      refine ⟨⟨h, rfl⟩, Nat.le_trans (Nat.min_le_right _ _) ?_⟩
      show (PyData.list []).depth ≤ 64
      decide
  rw [e]
  rfl
theorem plain_perm {xs ys : List D} (h : xs.Perm ys) : plainA xs = plainA ys := by
  induction h with
  | nil => rfl
  | cons x _ ih => rw [plainA, plainA, ih]
  | swap x y l => rw [plainA, plainA, plainA, plainA]; cases plainD x <;> cases plainD y <;> rfl
  | trans _ _ a b => exact a.trans b
theorem plain_app {xs ys : List D} : plainA (xs ++ ys) = (plainA xs && plainA ys) := by
  induction xs with
  | nil => rfl
  | cons x r ih => rw [List.cons_append, plainA, plainA, ih, Bool.and_assoc]
theorem e_len {O : Ora} {s : Ev} {i : Nat} {xs : List D} {P : RV → Ev → Prop} {E : Xn → Ev → Prop} (h : s[i]? = some (.own (.lst xs)) ∨ s[i]? = some (.val (.list xs))) (q : P (.d (.int xs.length)) s) : WG (ev O (.bi "len" (.cons (.var i) .nil)) s) P E := by
  refine e_bi.mpr (e_cons.mpr ?_)
  rcases h with h | h
  · refine (e_own h).mpr (e_nil.mpr ⟨_, ?_, q⟩)
    show (match (match s[i]? with
      | some (.val x) => some x
      | some (.own o) => some o.toD
      | some (.io o) => some o.toD
      | _ => none), (some [] : Option (List D)) with
      | some d, some ds => some (d :: ds)
      | _, _ => none).bind (biD "len") = _
    rw [h]
    rfl
  · exact (e_val h).mpr (e_nil.mpr ⟨_, rfl, q⟩)
theorem erase_perm {α : Type} : ∀ (l : List α) (j : Nat) (h : j < l.length), ([l[j]] ++ l.eraseIdx j).Perm l
  | [], j, h => absurd h (Nat.not_lt_zero j)
  | a :: l, 0, h => List.Perm.refl _
  | a :: l, j + 1, h => by
    have h' : j < l.length := Nat.lt_of_succ_lt_succ h
    have ih := erase_perm l j h'
    show (l[j] :: a :: l.eraseIdx j).Perm (a :: l)
    exact (List.Perm.swap a l[j] _).trans (List.Perm.cons a ih)
theorem mut_pop (xs : List D) (i : Int) : mutD "pop" (.lst xs) [.int i] = if -(2 ^ 63) ≤ i && i < 2 ^ 63 then (seqIndex? i xs.length).bind fun k => (xs[k]?).map fun y => (y, Ob.lst (xs.eraseIdx k)) else none := rfl
theorem idx_nat (n m : Nat) (h : n < m) : seqIndex? (n : Int) m = some n := by
  unfold seqIndex?
  simp only [Int.natCast_nonneg]
  split <;> first | omega | skip
  all_goals (simp; try omega)
/-- items drawn of a row, in a drawn order -/
theorem r_picked (N : Has p) (k : Nat) (d : Dr) (b : Int) (h : d.Ok b) (hb : b < 2 ^ 38) (row : D) (xs : List D) (hr : seqD row = some xs) (hp : plainA xs = true) (hl : xs.length ≤ 1000) (n : Nat) (hn : n ≤ 1000)
    {P : RV → Option Ob → Prop} {E : Xn → Option Ob → Prop} (q : ∀ (ys rest : List D) (d' : Dr), (ys ++ rest).Perm xs → ys.length = min xs.length n → d'.Ok (b + n) → P (.own (.lst ys)) (some d'.ob)) :
    wpR (run p (k + 3) "_law_picked" [.io d.ob, .d row, .d (.int n)]) P E := by
  refine wp_run N.f_law_picked rfl fun O hΦ hG hΛ => ?_
  have Dw := draws N hΦ
  show WG (exB O k_law_picked [.io d.ob, .val row, .val (.int n), .emp, .emp]) _ _
  unfold k_law_picked
  refine b_cons.mpr (s_par.mpr (e_bi.mpr (e_cons.mpr ((e_val rfl).mpr (e_nil.mpr ⟨.own (.lst xs), ?_, w_stlo (e_lst.mpr (e_nil.mpr (w_frzL (ds := []) ⟨Nat.zero_le _, w_stlo (put_o (x := .emp) rfl rfl (put_o (x := .emp) rfl rfl ?_))⟩)))⟩)))))
  · show (seqD row).map (fun xs => RV.own (.lst xs)) = _
    rw [hr]
    rfl
  refine b_cons.mpr (s_whl (hΛ.trans N.loop) (fun m s => ∃ (rest found : List D) (d' : Dr), s = [.io d'.ob, .val row, .val (.int n), .own (.lst rest), .own (.lst found)] ∧ (found ++ rest).Perm xs ∧ found.length ≤ n ∧ m = rest.length ∧ d'.Ok (b + found.length)) xs.length
    ⟨xs, [], d, rfl, List.Perm.refl _, Nat.zero_le _, rfl, by simpa using h⟩ ?_)
  rintro m s ⟨rest, found, d1, rfl, pm, lf, rfl, h1⟩
  have pl : plainA rest = true := by
    have e := plain_perm pm
    rw [hp, plain_app, Bool.and_eq_true] at e
    exact e.2
  have len : found.length + rest.length = xs.length := by rw [← List.length_append, pm.length_eq]
  refine e_and.mpr (e_cmp.mpr ((e_own rfl).mpr (e_lst.mpr (e_nil.mpr (w_frzL (ds := []) ⟨Nat.zero_le _, _, _, rfl, rfl, _, ne_nil pl, _, rfl, ?_⟩)))))
  have done : found.length = min xs.length n → WG (exB O (.cons (.ret (.var 4)) .nil) [.io d1.ob, .val row, .val (.int n), .own (.lst rest), .own (.lst found)]) (fun fl s => match fl with | .ret v => P v (outOf s (some 0)) | .nx => P (.d .none) (outOf s (some 0)) | _ => False) fun x s => E x (outOf s (some 0)) := fun e =>
    b_cons.mpr (s_ret.mpr ((e_own rfl).mpr (w_rets rfl (q found rest d1 pm e (h1.mono (by omega))))))
  cases rest with
  | nil =>
    refine ⟨false, rfl, ?_⟩
    rw [List.length_nil] at len
    exact done (by omega)
  | cons r0 rs =>
    refine e_cmp.mpr (e_len (.inl rfl) ((e_val rfl).mpr ⟨_, _, rfl, rfl, _, rfl, _, rfl, ?_⟩))
    by_cases lt : (found.length : Int) < n
    · rw [decide_eq_true lt]
      refine b_cons.mpr (s_ex.mpr (e_mut ⟨rfl, e_cons.mpr (e_mut ⟨rfl, e_cons.mpr (w_next Dw rfl h1 (by omega) (m := ((r0 :: rs).length : Int)) (by rw [List.length_cons]; omega) (by omega) (e_len (.inl rfl) ⟨rfl, rfl⟩) fun v d2 v0 v1 h2 => e_nil.mpr (w_frzL (ds := [.int v]) ?_))⟩)⟩))
      obtain ⟨j, rfl⟩ := Int.eq_ofNat_of_zero_le v0
      have hj : j < (r0 :: rs).length := by omega
      refine ⟨r0 :: rs, (r0 :: rs)[j], .lst ((r0 :: rs).eraseIdx j), rfl, ?_, e_nil.mpr (w_frzL (ds := [(r0 :: rs)[j]]) ⟨found, .none, .lst (found ++ [(r0 :: rs)[j]]), rfl, ?_, ?_⟩)⟩
      · rw [mut_pop, if_pos (by rw [Bool.and_eq_true, decide_eq_true_eq, decide_eq_true_eq]; omega), idx_nat j _ hj, Option.bind_some, List.getElem?_eq_getElem hj, Option.map_some]
      · show (if found.length < sizeLine then some (PyData.none, Ob.lst (found ++ [(r0 :: rs)[j]])) else none) = _
        rw [if_pos (by rw [sl16]; omega)]
      · refine b_nil.mpr ⟨((r0 :: rs).eraseIdx j).length, by rw [List.length_eraseIdx_of_lt hj]; omega, (r0 :: rs).eraseIdx j, found ++ [(r0 :: rs)[j]], d2, rfl, ?_, by rw [List.length_append, List.length_singleton]; omega, rfl, h2.mono (by rw [List.length_append, List.length_singleton]; omega)⟩
        refine List.Perm.trans ?_ pm
        rw [List.append_assoc]
        exact List.Perm.append_left _ (erase_perm _ j hj)
    · rw [decide_eq_false lt]
      exact done (by omega)
end
end ND

/-! ND4: gates. -/
namespace ND
open PySem GS
section
variable {O : Ora} {s : Ev} {P : RV → Ev → Prop} {E : Xn → Ev → Prop} {a : GS.CE} {l h : CEs}
theorem e_slc (g : WG (ev O a s) (fun x s => WG (evs O l s) (fun y s => ∃ lo, (getAll s (y.map RV.opd)).bind partD = some lo ∧ WG (evs O h s) (fun z s => ∃ u hi r, x.opd.get s = some u ∧ (getAll s (z.map RV.opd)).bind partD = some hi ∧ slcD u lo hi = some r ∧ P r s) E) E) E) : WG (ev O (.slc a l h) s) P E := by
  refine WG_bind.mpr (g.mono (fun x s g => WG_bind.mpr (g.mono (fun y s g => ?_) fun _ _ z => z)) fun _ _ z => z)
  obtain ⟨lo, e1, g⟩ := g
  rw [e1]
  refine WG_bind.mpr (g.mono (fun z s g => ?_) fun _ _ z => z)
  obtain ⟨u, hi, r, e2, e3, e4, q⟩ := g
  rw [e2, e3]
  exact w_opt.mpr ⟨r, e4, q⟩
end
def strL (xs : List Str) : List D := xs.map PyData.str
theorem plain_strs : ∀ xs : List Str, plainA (strL xs) = true
  | [] => rfl
  | _ :: r => plain_strs r
def unS : D → Str
  | .str x => x
  | _ => ""
theorem strs_perm {ys rest : List D} {xs : List Str} (h : (ys ++ rest).Perm (strL xs)) : ∃ as bs : List Str, ys = strL as ∧ rest = strL bs ∧ (as ++ bs).Perm xs := by
  have all : ∀ y ∈ ys ++ rest, ∃ x, y = PyData.str x := fun y hy => by
    obtain ⟨x, _, e⟩ := List.mem_map.mp (h.mem_iff.mp hy)
    exact ⟨x, e.symm⟩
  have back : ∀ l : List D, (∀ y ∈ l, ∃ x, y = PyData.str x) → l = strL (l.map unS) := fun l hl => by
    induction l with
    | nil => rfl
    | cons y r ih =>
      obtain ⟨x, rfl⟩ := hl y List.mem_cons_self
      show _ = PyData.str x :: strL (r.map unS)
      rw [← ih fun z hz => hl z (List.mem_cons_of_mem _ hz)]
  refine ⟨ys.map unS, rest.map unS, back ys fun y hy => all y (List.mem_append_left _ hy), back rest fun y hy => all y (List.mem_append_right _ hy), ?_⟩
  have q := h.map unS
  rw [List.map_append] at q
  have e : (strL xs).map unS = xs := by
    unfold strL
    rw [List.map_map]
    exact List.map_id' xs
  rw [e] at q
  exact q
theorem cut_tail {α : Type} (n v : Nat) (hv : v < n) : HT.sIx n 0 (some (0 - 1 - (v : Int))) = n - 1 - v := by
  show (if (0 - 1 - (v : Int)) < 0 then (0 - 1 - (v : Int) + (n : Int)).toNat else min (0 - 1 - (v : Int)).toNat n) = _
  rw [if_pos (by omega)]
  omega
def kinds : List Str := ["not", "and", "nand", "or", "nor", "xor"]
section
variable {p : Prog}
theorem eq_str (a b : Str) : cmpD .Eq (.str a) (.str b) = some (decide (a = b)) := by
  show (if plainD (.str a) && plainD (.str b) && decide (min (PyData.str a).depth (PyData.str b).depth ≤ 64) then some (PyData.eqv (.str a) (.str b)) else none) = _
  rw [if_pos (by simp [plainD, PyData.depth])]
  rfl
theorem eq_int (a b : Int) : cmpD .Eq (.int a) (.int b) = some (decide (a = b)) := by
  show (if plainD (.int a) && plainD (.int b) && decide (min (PyData.int a).depth (PyData.int b).depth ≤ 64) then some (PyData.eqv (.int a) (.int b)) else none) = _
  rw [if_pos (by simp [plainD, PyData.depth])]
  rfl
theorem list_tup {xs : List D} : biD "tuple" [.list xs] = some (.d (.tuple xs)) := rfl
structure Gate where
  name : Str
  kind : Str
  pins : List Str
  dl : List (Int × Int)
def Gate.toD (g : Gate) : D := .tuple [.str g.name, .str g.kind, .tuple (strL g.pins), .tuple (g.dl.map pairD)]
/-- what a drawn gate is -/
structure Gate.Ok (g : Gate) (ahead : List Str) (c : Nat) : Prop where
  kind : g.kind ∈ kinds
  one : g.kind = "not" ↔ g.pins.length = 1
  some : 1 ≤ g.pins.length
  few : g.pins.length ≤ 3
  ins : ∀ x ∈ g.pins, x ∈ ahead
  nodup : ahead.Nodup → g.pins.Nodup
  dls : g.dl.length = c
  pairs : ∀ q ∈ g.dl, Pair q
theorem r_gate (N : Has p) (k : Nat) (d : Dr) (b : Int) (h : d.Ok b) (hb : b + 100000 < 2 ^ 38) (nm : Str) (ahead : List Str) (h0 : ahead ≠ []) (hl : ahead.length ≤ 900) (c : Nat) (hc : c ≤ 1000)
    {P : RV → Option Ob → Prop} {E : Xn → Option Ob → Prop} (q : ∀ (g : Gate) (d' : Dr), g.name = nm → g.Ok ahead c → d'.Ok (b + 6 + 5 * c) → P (.d g.toD) (some d'.ob)) :
    wpR (run p (k + 4) "_law_gate" [.io d.ob, .d (.str nm), .d (.list (strL ahead)), .d (.int c)]) P E := by
  have pos : 1 ≤ ahead.length := List.length_pos_iff.mpr h0
  refine wp_run N.f_law_gate rfl fun O hΦ hG hΛ => ?_
  have Dw := draws N hΦ
  show WG (exB O k_law_gate [.io d.ob, .val (.str nm), .val (.list (strL ahead)), .val (.int c), .emp, .emp, .emp, .emp]) _ _
  unfold k_law_gate
  -- near
  refine b_cons.mpr <| s_set.mpr <| e_slc <| (e_val rfl).mpr <| e_cons.mpr <| e_bin.mpr <| e_bin.mpr <| e_con.mpr <| e_con.mpr ⟨_, _, rfl, rfl, _, rfl, w_next Dw rfl h (by omega) (m := ((strL ahead).length : Int)) (by rw [strL, List.length_map]; omega) (by rw [strL, List.length_map]; omega) (e_len (.inr rfl) ⟨rfl, rfl⟩) fun v d1 v0 v1 h1 => ?_⟩
  obtain ⟨j, rfl⟩ := Int.eq_ofNat_of_zero_le v0
  have hj : j < ahead.length := by rw [strL, List.length_map] at v1; omega
  have cut : slcD (.list (strL ahead)) (some (0 - 1 - (j : Int))) none = some (.own (.lst (strL (ahead.drop (ahead.length - 1 - j))))) := by
    show some (RV.own (.lst (cutD (strL ahead) (some (0 - 1 - (j : Int))) none))) = _
    unfold cutD
    rw [strL, List.length_map, cut_tail (α := Str) ahead.length j hj]
    show some (RV.own (.lst (((ahead.map PyData.str).drop (ahead.length - 1 - j)).take (ahead.length - (ahead.length - 1 - j))))) = _
    rw [List.take_of_length_le (by rw [List.length_drop, List.length_map]; omega), strL, List.map_drop]
  refine ⟨_, _, rfl, rfl, _, rfl, e_nil.mpr ⟨some (0 - 1 - (j : Int)), rfl, e_nil.mpr ⟨_, none, _, rfl, rfl, cut, put_o (x := .emp) rfl rfl ?_⟩⟩⟩
  generalize hn : ahead.drop (ahead.length - 1 - j) = near
  have near0 : 1 ≤ near.length := by rw [← hn, List.length_drop]; omega
  have nearL : near.length ≤ ahead.length := by rw [← hn, List.length_drop]; omega
  have nearS : near.Sublist ahead := hn ▸ List.drop_sublist _ _
  -- kind
  refine b_cons.mpr <| s_set.mpr <| w_pick Dw <| e_cons.mpr <| e_con.mpr <| e_cons.mpr <| e_con.mpr <| e_cons.mpr <| e_con.mpr <| e_cons.mpr <| e_con.mpr <| e_cons.mpr <| e_con.mpr <| e_cons.mpr <| e_con.mpr <| e_nil.mpr
    ⟨strL kinds, d1, _, rfl, rfl, by decide, by decide, rfl, h1, by omega, fun r hr d2 h2 => ?_⟩
  obtain ⟨kd, hk, rfl⟩ := List.mem_map.mp hr
  refine put_v (x := .emp) rfl rfl ?_
  -- how many
  have go : ∀ (m : Nat) (d3 : Dr), 1 ≤ m → m ≤ 3 → (kd = "not" → m = 1) → (kd ≠ "not" → 2 ≤ m) → d3.Ok (b + 3) → WG (exB O (.cons (.set 7 (.call ("_law_picked" : Str) (.cons (.var 0) (.cons (.ite (.cmp .GtE (.bi "len" (.cons (.var 4) .nil)) (.var 6)) (.var 4) (.var 2)) (.cons (.var 6) .nil))) [.io 0, .pos 1, .pos 2])) (.cons (.ife (.cmp .Eq (.bi "len" (.cons (.var 7) .nil)) (.con (.int (1)))) (.cons (.set 5 (.con (.str ("not" : Str)))) .nil) .nil) (.cons (.ret (.tup (.cons (.var 1) (.cons (.var 5) (.cons (.bi "tuple" (.cons (.var 7) .nil)) (.cons (.call ("_law_delays" : Str) (.cons (.var 0) (.cons (.var 3) .nil)) [.io 0, .pos 1]) .nil)))))) .nil)))
      [.io d3.ob, .val (.str nm), .val (.list (strL ahead)), .val (.int c), .own (.lst (strL near)), .val (.str kd), .val (.int m), .emp]) (fun fl s => match fl with | .ret v => P v (outOf s (some 0)) | .nx => P (.d .none) (outOf s (some 0)) | _ => False) fun x s => E x (outOf s (some 0)) := by
    intro m d3 m1 m3 k1 k2 h3
    -- the rest, from the pins on
    have fin : ∀ (pins : List Str) (d4 : Dr) (x4 : Sl), 1 ≤ pins.length → pins.length ≤ 3 → (kd = "not" → pins.length = 1) → (∀ x ∈ pins, x ∈ ahead) → (ahead.Nodup → pins.Nodup) → d4.Ok (b + 6) →
        WG (exB O (.cons (.ife (.cmp .Eq (.bi "len" (.cons (.var 7) .nil)) (.con (.int (1)))) (.cons (.set 5 (.con (.str ("not" : Str)))) .nil) .nil) (.cons (.ret (.tup (.cons (.var 1) (.cons (.var 5) (.cons (.bi "tuple" (.cons (.var 7) .nil)) (.cons (.call ("_law_delays" : Str) (.cons (.var 0) (.cons (.var 3) .nil)) [.io 0, .pos 1]) .nil)))))) .nil))
          [.io d4.ob, .val (.str nm), .val (.list (strL ahead)), .val (.int c), x4, .val (.str kd), .val (.int m), .own (.lst (strL pins))]) (fun fl s => match fl with | .ret v => P v (outOf s (some 0)) | .nx => P (.d .none) (outOf s (some 0)) | _ => False) fun x s => E x (outOf s (some 0)) := by
      intro pins d4 x4 p1 p3 kn ins nd h4
      have last : ∀ kd' : Str, kd' ∈ kinds → (kd' = "not" ↔ pins.length = 1) → WG (exB O (.cons (.ret (.tup (.cons (.var 1) (.cons (.var 5) (.cons (.bi "tuple" (.cons (.var 7) .nil)) (.cons (.call ("_law_delays" : Str) (.cons (.var 0) (.cons (.var 3) .nil)) [.io 0, .pos 1]) .nil)))))) .nil)
          [.io d4.ob, .val (.str nm), .val (.list (strL ahead)), .val (.int c), x4, .val (.str kd'), .val (.int m), .own (.lst (strL pins))]) (fun fl s => match fl with | .ret v => P v (outOf s (some 0)) | .nx => P (.d .none) (outOf s (some 0)) | _ => False) fun x s => E x (outOf s (some 0)) := by
        intro kd' hk' one
        refine b_cons.mpr <| s_ret.mpr <| e_tup.mpr <| e_cons.mpr <| (e_val rfl).mpr <| e_cons.mpr <| (e_val rfl).mpr <| e_cons.mpr <| e_bi.mpr <| e_cons.mpr <| (e_own rfl).mpr <| e_nil.mpr ⟨_, rfl, e_cons.mpr <| e_call2 rfl ((e_val rfl).mpr ⟨rfl, rfl⟩) ?_⟩
        rw [hΦ]
        refine r_delays N k d4 (b + 6) h4 c hc (by omega) fun ps d5 l5 pp h5 => ⟨_, rfl, e_nil.mpr <| w_frzL (ds := [.str nm, .str kd', .tuple (strL pins), .tuple (ps.map pairD)]) ⟨by rw [sl16]; show 4 ≤ 16777216; decide, w_retd ?_⟩⟩
        exact q ⟨nm, kd', pins, ps⟩ d5 rfl ⟨hk', one, p1, p3, ins, nd, l5, pp⟩ h5
      refine b_cons.mpr <| s_ife.mpr <| e_cmp.mpr <| e_len (.inl rfl) <| e_con.mpr ⟨_, _, rfl, rfl, _, eq_int _ _, _, rfl, ?_⟩
      have le : (strL pins).length = pins.length := List.length_map ..
      by_cases o : pins.length = 1
      · rw [decide_eq_true (by rw [le, o]; rfl)]
        exact b_cons.mpr <| s_set.mpr <| e_con.mpr <| put_v (x := .val (.str kd)) rfl rfl <| b_nil.mpr <| last "not" (by decide) ⟨fun _ => o, fun _ => rfl⟩
      · rw [decide_eq_false (by rw [le]; omega)]
        exact b_nil.mpr <| last kd hk ⟨fun e => kn e, fun e => absurd e o⟩
    have row : ∀ (ys rest : List D) (src : List Str), src.Sublist ahead → 1 ≤ src.length → (ys ++ rest).Perm (strL src) → ys.length = min (strL src).length m → (m ≤ src.length ∨ src = ahead) → ∃ pins : List Str, ys = strL pins ∧ 1 ≤ pins.length ∧ pins.length ≤ 3 ∧ (kd = "not" → pins.length = 1) ∧ (∀ x ∈ pins, x ∈ ahead) ∧ (ahead.Nodup → pins.Nodup) := by
      intro ys rest src sub s1 pm ly _
      obtain ⟨as, bs, rfl, rfl, pm'⟩ := strs_perm pm
      have la : as.length = min src.length m := by
        have e1 : (strL as).length = as.length := List.length_map ..
        have e2 : (strL src).length = src.length := List.length_map ..
        rw [e1, e2] at ly
        exact ly
      refine ⟨as, rfl, by omega, by omega, fun e => by rw [k1 e] at la; omega, fun x hx => sub.subset (pm'.mem_iff.mp (List.mem_append_left _ hx)), fun nd => ?_⟩
      exact ((List.nodup_append.mp (pm'.nodup_iff.mpr (nd.sublist sub))).1)
    refine b_cons.mpr <| s_set.mpr <| e_call <| e_cons.mpr <| (e_io rfl).mpr <| e_cons.mpr <| e_ite.mpr <| e_cmp.mpr <| e_len (.inl rfl) <| (e_val rfl).mpr ⟨_, _, rfl, rfl, _, rfl, _, rfl, ?_⟩
    have ln : (strL near).length = near.length := List.length_map ..
    have la : (strL ahead).length = ahead.length := List.length_map ..
    by_cases c1 : (m : Int) ≤ ((strL near).length : Int)
    · rw [decide_eq_true c1]
      refine (e_own rfl).mpr <| e_cons.mpr <| (e_val rfl).mpr <| e_nil.mpr ⟨[.io d3.ob, .d (.list (strL near)), .d (.int m)], rfl, ?_⟩
      rw [hΦ]
      refine r_picked N k d3 (b + 3) h3 (by omega) (.list (strL near)) (strL near) rfl (plain_strs _) (by omega) m (by omega) fun ys rest d4 pm ly h4 => ⟨_, rfl, ?_⟩
      obtain ⟨pins, rfl, p1, p3, kn, ins, nd⟩ := row ys rest near nearS near0 pm ly (.inl (by omega))
      exact put_o (x := .emp) rfl rfl (fin pins d4 _ p1 p3 kn ins nd (h4.mono (by omega)))
    · rw [decide_eq_false c1]
      refine (e_val rfl).mpr <| e_cons.mpr <| (e_val rfl).mpr <| e_nil.mpr ⟨[.io d3.ob, .d (.list (strL ahead)), .d (.int m)], rfl, ?_⟩
      rw [hΦ]
      refine r_picked N k d3 (b + 3) h3 (by omega) (.list (strL ahead)) (strL ahead) rfl (plain_strs _) (by omega) m (by omega) fun ys rest d4 pm ly h4 => ⟨_, rfl, ?_⟩
      obtain ⟨pins, rfl, p1, p3, kn, ins, nd⟩ := row ys rest ahead (List.Sublist.refl _) pos pm ly (.inr rfl)
      exact put_o (x := .emp) rfl rfl (fin pins d4 _ p1 p3 kn ins nd (h4.mono (by omega)))
  refine b_cons.mpr <| s_set.mpr <| e_ite.mpr <| e_cmp.mpr <| (e_val rfl).mpr <| e_con.mpr ⟨_, _, rfl, rfl, _, eq_str _ _, _, rfl, ?_⟩
  by_cases kn : kd = "not"
  · rw [decide_eq_true kn]
    exact e_con.mpr <| put_v (x := .emp) rfl rfl <| go 1 d2 (by omega) (by omega) (fun _ => rfl) (fun z => absurd kn z) (h2.mono (by omega))
  · rw [decide_eq_false kn]
    refine e_bin.mpr <| e_con.mpr <| e_bi.mpr <| e_cons.mpr <| e_cmp.mpr <| w_nextc Dw rfl h2 (by omega) (by decide) (by decide) fun v d3 v0 v1 h3 => e_con.mpr ⟨_, _, rfl, rfl, _, eq_int _ _, e_nil.mpr ⟨_, rfl, _, _, rfl, rfl, _, rfl, put_v (x := .emp) rfl rfl ?_⟩⟩
    by_cases z : v = 0
    · rw [decide_eq_true z]
      exact go 3 d3 (by omega) (by omega) (fun e => absurd e kn) (fun _ => by omega) (h3.mono (by omega))
    · rw [decide_eq_false z]
      exact go 2 d3 (by omega) (by omega) (fun e => absurd e kn) (fun _ => by omega) (h3.mono (by omega))
end
end ND

/-! ND5: words and letters. -/
namespace ND
open PySem GS
section
variable {O : Ora} {s : Ev} {P : RV → Ev → Prop} {E : Xn → Ev → Prop} {a e : GS.CE} {ifs : CEs} {it : CI} {ow : List Nat} {tg : CT}
theorem e_comp (h : WG (evI O it s) (fun xs s0 => tgIn ow tg = true ∧ WG (wipeC ow s0) (fun _ s1 => WG (compL ow tg (fun s => evT O ifs s) (fun s => (ev O e s).bind frz) xs [] s1) (fun acc s' => P (.own (.lst acc)) (backS s0 s' ow)) fun _ _ => False) E) E) : WG (ev O (.comp ow tg it ifs e) s) P E := by
  refine WG_bind.mpr (h.mono (fun xs s0 h => ?_) fun _ _ z => z)
  obtain ⟨t, h⟩ := h
  rw [if_neg (by rw [t]; decide)]
  refine WG_bind.mpr (h.mono (fun _ s1 h => ?_) fun _ _ z => z)
  have h2 : WG ((compL ow tg (fun s => evT O ifs s) (fun s => (ev O e s).bind frz) xs [] s1).bind fun acc s' => .ok (RV.own (.lst acc)) (backS s0 s' ow)) P (fun _ _ => False) := WG_bind.mpr (h.mono (fun acc s' h => w_ok.mpr h) fun _ _ z => z)
  revert h2
  generalize ((compL ow tg (fun s => evT O ifs s) (fun s => (ev O e s).bind frz) xs [] s1).bind fun acc s' => Rs.ok (RV.own (.lst acc)) (backS s0 s' ow)) = r
  intro h2
  cases h2 with
  | ok h => exact w_ok.mpr h
  | er h => exact h.elim
theorem i_v {Q : List D → Ev → Prop} (h : WG (ev O e s) (fun x s => WG (frz x s) (fun d s => ∃ xs, itemsD d = some xs ∧ Q xs s) E) E) : WG (evI O (.v e) s) Q E :=
  WG_bind.mpr (h.mono (fun x s h => WG_bind.mpr (h.mono (fun d s h => w_opt.mpr h) fun _ _ z => z)) fun _ _ z => z)
theorem w_wipe1 {i : Nat} {x : Sl} {QU : Unit → Ev → Prop} (hs : s[i]? = some x) (hx : isOwn (some x) = false) (q : QU () (s.set i .emp)) : WG (wipeC [i] s) QU E := by
  unfold wipeC
  rw [List.any_cons, List.any_nil, hs, hx]
  exact w_ok.mpr q
theorem t_nil {Q : Bool → Ev → Prop} (q : Q true s) : WG (evT O .nil s) Q E := w_ok.mpr q
theorem t_one {Q : Bool → Ev → Prop} (q : WG (ev O a s) (fun x s => trv s x fun t => Q t s) E) : WG (evT O (.cons a .nil) s) Q E := by
  refine WG_bind.mpr (q.mono (fun x s h => ?_) fun _ _ z => z)
  obtain ⟨t, e, q⟩ := h
  rw [e]
  cases t with
  | true => exact w_ok.mpr q
  | false => exact w_ok.mpr q
end
/-! ### letters -/
def letS : Str := "abcdefghijklmnopqrstuvwxyz"
theorem let_at : ∀ j, j < 26 → letS.cps.toList[j]? = some (97 + j) := by decide +kernel
def chr (c : Nat) : Str := ⟨#[c]⟩
theorem idx_let (j : Nat) (h : j < 26) : idxD (.str letS) (.int j) = some (.str (chr (97 + j))) := by
  show (L2.atI letS.cps.toList (j : Int)).map chr1 = _
  rw [L2.atI_nat (let_at j h)]
  rfl
/-- n small letters -/
structure Nm (n : Nat) (x : Str) : Prop where
  len : x.length = n
  low : ∀ c ∈ x.cps.toList, 97 ≤ c ∧ c < 123
theorem Nm.chr {j : Nat} (h : j < 26) : Nm 1 (chr (97 + j)) := ⟨rfl, fun c hc => by
  have e : c = 97 + j := by simpa [ND.chr] using hc
  omega⟩
theorem app_cps (a b : Str) : (a ++ b).cps.toList = a.cps.toList ++ b.cps.toList := Array.toList_append ..
theorem Nm.app {n m : Nat} {a b : Str} (x : Nm n a) (y : Nm m b) : Nm (n + m) (a ++ b) := by
  refine ⟨?_, fun c hc => ?_⟩
  · have := x.len
    have := y.len
    show (a ++ b).cps.size = n + m
    rw [← Array.length_toList, app_cps, List.length_append, Array.length_toList, Array.length_toList]
    have h1 : a.cps.size = n := x.len
    have h2 : b.cps.size = m := y.len
    rw [h1, h2]
  · rw [app_cps] at hc
    rcases List.mem_append.mp hc with hc | hc
    · exact x.low c hc
    · exact y.low c hc
theorem Nm.ok {n : Nat} {x : Str} (h : Nm n x) : PyData.strOk x = true := strOk_iff.mpr fun c hc => by have := (h.low c hc).2; omega
theorem e0 : Nm 0 (Str.ofString "") := ⟨by decide +kernel, by decide +kernel⟩
theorem join_nm : ∀ {ys : List Str}, (∀ y ∈ ys, Nm 1 y) → Nm ys.length (Str.join (Str.ofString "") ys)
  | [], _ => e0
  | [x], h => h x List.mem_cons_self
  | x :: y :: r, h => by
    have h1 := join_nm (ys := y :: r) fun z hz => h z (List.mem_cons_of_mem _ hz)
    have hx := h x List.mem_cons_self
    have q := (hx.app e0).app h1
    rw [show 1 + 0 + (y :: r).length = (x :: y :: r).length by simp only [List.length_cons]; omega] at q
    exact q
theorem strL_back (ys : List Str) : strsD (strL ys) = some ys := by
  induction ys with
  | nil => rfl
  | cons y r ih =>
    show (strsD (strL r)).map (y :: ·) = _
    rw [ih]
    rfl
theorem sum_one : ∀ {ys : List Str}, (∀ y ∈ ys, Nm 1 y) → (ys.map (·.length)).sum = ys.length
  | [], _ => rfl
  | y :: r, h => by
    rw [List.map_cons, List.sum_cons, (h y List.mem_cons_self).len, sum_one fun z hz => h z (List.mem_cons_of_mem _ hz), List.length_cons]
    omega
theorem m_join {ys : List Str} (h : ∀ y ∈ ys, Nm 1 y) (l : ys.length ≤ 1000) : methD "join" (.str (Str.ofString "")) [.list (strL ys)] = some (.d (.str (Str.join (Str.ofString "") ys))) := by
  have w := join_nm h
  have e : Txt.join (Str.ofString "") ys = Str.join (Str.ofString "") ys := StrLaws.glued_eq_join _ _
  show (strsD (strL ys)).bind (fun ys => if (ys.map (·.length)).sum + ys.length * (Str.ofString "").length ≤ 16777216 && decide ((Txt.join (Str.ofString "") ys).length ≤ sizeLine) && PyData.strOk (Txt.join (Str.ofString "") ys) then some (RV.d (.str (Txt.join (Str.ofString "") ys))) else none) = _
  rw [strL_back]
  show (if _ then _ else _) = _
  have z : (Str.ofString "").length = 0 := by decide +kernel
  rw [e, if_pos]
  simp only [Bool.and_eq_true, decide_eq_true_eq]
  have := w.len
  exact ⟨⟨by rw [z, sum_one h]; omega, by rw [sl16]; omega⟩, w.ok⟩
/-- a name: one to eight small letters -/
def IsName (x : Str) : Prop := ∃ n, 1 ≤ n ∧ n ≤ 8 ∧ Nm n x
/-! ### words -/
def wordS : Str := "not and nand or nor xor late early low high cut ask input gate clock"
def words : List Str := ["not", "and", "nand", "or", "nor", "xor", "late", "early", "low", "high", "cut", "ask", "input", "gate", "clock"]
theorem nmB (x : Str) (n : Nat) (h : (decide (x.length = n) && x.cps.toList.all fun c => decide (97 ≤ c) && decide (c < 123)) = true) : Nm n x := by
  simp only [Bool.and_eq_true, decide_eq_true_eq, List.all_eq_true] at h
  exact ⟨h.1, h.2⟩
theorem words_ok : ∀ x ∈ words, IsName x := by
  intro x hx
  have all : (words.all fun x => decide (1 ≤ x.length) && decide (x.length ≤ 8) && x.cps.toList.all fun c => decide (97 ≤ c) && decide (c < 123)) = true := by decide +kernel
  have h := List.all_eq_true.mp all x hx
  simp only [Bool.and_eq_true, decide_eq_true_eq, List.all_eq_true] at h
  exact ⟨x.length, h.1.1, h.1.2, rfl, h.2⟩
theorem split_words : Txt.split wordS " " = words := by decide +kernel
theorem m_split : methD "split" (.str wordS) [.str " "] = some (.own (.lst (strL words))) := by
  show (if (((" " : Str).length != 0 && decide (wordS.length + 2 ≤ sizeLine) && (Txt.split wordS " ").all (fun z => PyData.strOk z && decide (z.length ≤ sizeLine)) && decide ((Txt.split wordS " ").length ≤ sizeLine)) = true) then some (RV.own (.lst ((Txt.split wordS " ").map PyData.str))) else none) = _
  rw [split_words, sl16, if_pos (by decide +kernel)]
  rfl
/-! ### pairs of letters -/
def two (k : Nat) : Str := chr (97 + k / 26) ++ chr (97 + k % 26)
theorem two_inj {i j : Nat} (h : two i = two j) : i = j := by
  have e : (two i).cps.toList = (two j).cps.toList := by rw [h]
  unfold two at e
  rw [app_cps, app_cps] at e
  have e : [97 + i / 26, 97 + i % 26] = [97 + j / 26, 97 + j % 26] := e
  simp only [List.cons.injEq, and_true] at e
  omega
theorem two_nm {k : Nat} (h : k < 676) : Nm 2 (two k) := Nm.app (Nm.chr (by omega)) (Nm.chr (by omega))
def twos : List Str := (List.range 676).map two
theorem twos_nodup : twos.Nodup := List.pairwise_map.mpr (List.nodup_range.imp fun h e => h (two_inj e))
theorem filter_ne {α : Type} [DecidableEq α] (a : α) : ∀ {l : List α}, l.Nodup → l.length ≤ (l.filter fun x => decide (x ≠ a)).length + 1
  | [], _ => Nat.zero_le _
  | x :: l, h => by
    obtain ⟨h1, h2⟩ := List.nodup_cons.mp h
    by_cases e : x = a
    · subst e
      have all : l.filter (fun y => decide (y ≠ x)) = l := List.filter_eq_self.mpr fun y hy => decide_eq_true fun z => h1 (z ▸ hy)
      rw [List.filter_cons, if_neg (by simp), all, List.length_cons]
      exact Nat.le_refl _
    · rw [List.filter_cons, if_pos (decide_eq_true e), List.length_cons, List.length_cons]
      have := filter_ne a h2
      omega
theorem filter_out {α : Type} [DecidableEq α] : ∀ (f l : List α), l.Nodup → l.length ≤ (l.filter fun x => !decide (x ∈ f)).length + f.length
  | [], l, h => by
    rw [List.filter_eq_self.mpr (fun x _ => by simp)]
    exact Nat.le_add_right _ _
  | a :: f, l, h => by
    have h1 := filter_out f l h
    have h2 := filter_ne a (h.filter (fun x => !decide (x ∈ f)))
    rw [List.filter_filter] at h2
    have e : (fun x => decide (x ≠ a) && !decide (x ∈ f)) = fun x => !decide (x ∈ a :: f) := by
      funext x
      by_cases e1 : x = a <;> by_cases e2 : x ∈ f <;> simp [e1, e2]
    rw [e] at h2
    rw [List.length_cons]
    omega
theorem in_strs (x : Str) (ns : List Str) : isIn (.str x) (.list (strL ns)) = some (decide (x ∈ ns)) := by
  have dp : ∀ l : List Str, PyData.depthAll (strL l) = 0 := fun l => by
    induction l with
    | nil => rfl
    | cons y r ih =>
      show max _ (PyData.depthAll (strL r)) = 0
      rw [ih]
      rfl
  show (if plainD (.str x) && plainA (strL ns) && decide (min (PyData.depthAll (strL ns)) (PyData.str x).depth ≤ 64) then some ((strL ns).any fun y => PyData.eqv y (.str x)) else none) = _
  rw [if_pos (by rw [plain_strs, dp]; simp [plainD])]
  congr 1
  induction ns with
  | nil => rfl
  | cons y r ih =>
    show (PyData.eqv (.str y) (.str x) || (strL r).any fun y => PyData.eqv y (.str x)) = _
    rw [ih]
    have e : PyData.eqv (.str y) (.str x) = decide (y = x) := rfl
    rw [e]
    by_cases h1 : y = x
    · subst h1; simp
    · have h1' : ¬ x = y := fun z => h1 z.symm
      by_cases h2 : x ∈ r <;> simp [h1, h1', h2]
end ND

/-! ND6: names drawn. -/
namespace ND
open PySem GS
section
variable {p : Prog}
theorem strL_snoc {ys : List Str} {y : Str} : strL (ys ++ [y]) = strL ys ++ [.str y] := List.map_append ..
theorem i_name1 {x : Str} (h : Nm 2 x) : IsName x := ⟨2, by omega, by omega, h⟩
/-- a comprehension whose turns draw a letter each -/
theorem c_letters {O : Ora} (Dw : Draws O) {d : Dr} {b : Int} (h : d.Ok b) (hb : b + 1000 < 2 ^ 39) (n : Nat) (hn : n ≤ 1000) (many : D) (f : Sl) (x5 x6 x7 x9 : Sl) {P : RV → Ev → Prop} {E : Xn → Ev → Prop}
    (q : ∀ (ys : List Str) (d' : Dr), ys.length = n → (∀ y ∈ ys, Nm 1 y) → d'.Ok (b + n) → P (.own (.lst (strL ys))) [.io d'.ob, .val many, .val (.str letS), f, .val (.int n), x5, x6, x7, .emp, x9]) :
    WG (ev O q_law_names_0 [.io d.ob, .val many, .val (.str letS), f, .val (.int n), x5, x6, x7, .emp, x9]) P E := by
  unfold q_law_names_0
  refine e_comp <| i_rng1 (n := n) (by omega) <| (e_val rfl).mpr ⟨rfl, rfl, w_wipe1 (x := .emp) rfl rfl ?_⟩
  refine wp_comp (fun i acc s => ∃ (ys : List Str) (d' : Dr), acc = strL ys ∧ s = [.io d'.ob, .val many, .val (.str letS), f, .val (.int n), x5, x6, x7, .emp, x9] ∧ ys.length = i ∧ (∀ y ∈ ys, Nm 1 y) ∧ d'.Ok (b + i)) (fun i x acc s hx ⟨ys, d1, ea, es, l, w, h1⟩ => ?_) (fun acc s ⟨ys, d1, ea, es, l, w, h1⟩ => ?_) ⟨[], d, rfl, rfl, rfl, (fun _ z => nomatch z), by simpa using h⟩
  · subst ea es
    have hi : i < n := by simpa using (List.getElem?_eq_some_iff.mp hx).1
    refine bind_nm (x := .emp) rfl rfl <| t_nil <| WG_bind.mpr <| e_idx.mpr <| (e_val rfl).mpr <| w_nextc Dw rfl h1 (by omega) (by decide) (by decide) fun v d2 v0 v1 h2 => ?_
    obtain ⟨j, rfl⟩ := Int.eq_ofNat_of_zero_le v0
    have hj : j < 26 := by omega
    refine ⟨_, _, rfl, rfl, _, idx_let j hj, w_frzd ⟨by rw [strL, List.length_map, sl16]; omega, w_wipe1 (x := .val x) rfl rfl ⟨ys ++ [chr (97 + j)], d2, strL_snoc.symm, rfl, by rw [List.length_append, l]; rfl, fun y hy => ?_, h2.mono (by omega)⟩⟩⟩
    rcases List.mem_append.mp hy with hy | hy
    · exact w y hy
    · rw [List.mem_singleton.mp hy]; exact Nm.chr hj
  · subst ea es
    rw [List.length_map, List.length_range] at l h1
    exact q ys d1 l w h1
theorem c_twos {O : Ora} (s0 s4 x5 x6 x7 x9 : Sl) (many : D) (f : Sl) {P : RV → Ev → Prop} {E : Xn → Ev → Prop}
    (q : P (.own (.lst (strL twos))) [s0, .val many, .val (.str letS), f, s4, x5, x6, x7, .emp, x9]) :
    WG (ev O q_law_names_1 [s0, .val many, .val (.str letS), f, s4, x5, x6, x7, .emp, x9]) P E := by
  unfold q_law_names_1
  refine e_comp <| i_rng1 (n := 676) (by decide) <| e_con.mpr ⟨rfl, rfl, w_wipe1 (x := .emp) rfl rfl ?_⟩
  refine wp_comp (fun i acc s => acc = strL ((List.range i).map two) ∧ s = [s0, .val many, .val (.str letS), f, s4, x5, x6, x7, .emp, x9]) (fun i x acc s hx ⟨ea, es⟩ => ?_) (fun acc s ⟨ea, es⟩ => ?_) ⟨rfl, rfl⟩
  · subst ea es
    have hi : i < 676 := by simpa using (List.getElem?_eq_some_iff.mp hx).1
    have ex : x = .int (i : Int) := by
      rw [List.getElem?_map, List.getElem?_range hi] at hx
      cases hx
      rfl
    subst ex
    have e1 : (i : Int) / 26 = ((i / 26 : Nat) : Int) := by omega
    have e2 : (i : Int) % 26 = ((i % 26 : Nat) : Int) := by omega
    have b1 : binD .FloorDiv (.int (i : Int)) (.int 26) = some (.d (.int ((i / 26 : Nat) : Int))) := by rw [← e1]; rfl
    have b2 : binD .Mod (.int (i : Int)) (.int 26) = some (.d (.int ((i % 26 : Nat) : Int))) := by rw [← e2]; rfl
    have b3 : binD .Add (.str (chr (97 + i / 26))) (.str (chr (97 + i % 26))) = some (.d (.str (two i))) := by
      show (if (chr (97 + i / 26)).length + (chr (97 + i % 26)).length ≤ sizeLine then some (RV.d (.str (chr (97 + i / 26) ++ chr (97 + i % 26)))) else none) = _
      rw [if_pos (show (chr (97 + i / 26)).length + (chr (97 + i % 26)).length ≤ sizeLine from two_le)]
      rfl
    refine bind_nm (x := .emp) rfl rfl <| t_nil <| WG_bind.mpr <| e_bin.mpr <| e_idx.mpr <| (e_val rfl).mpr <| e_bin.mpr <| (e_val rfl).mpr <| e_con.mpr ⟨_, _, rfl, rfl, _, b1, _, _, rfl, rfl, _, idx_let _ (by omega), e_idx.mpr <| (e_val rfl).mpr <| e_bin.mpr <| (e_val rfl).mpr <| e_con.mpr
      ⟨_, _, rfl, rfl, _, b2, _, _, rfl, rfl, _, idx_let _ (by omega), _, _, rfl, rfl, _, b3, w_frzd ⟨?_, w_wipe1 (x := .val (.int (i : Int))) rfl rfl ⟨?_, rfl⟩⟩⟩⟩
    · rw [strL, List.length_map, List.length_map, List.length_range, sl16]; omega
    · rw [List.range_succ, List.map_append]
      exact strL_snoc.symm
  · subst ea es
    rw [List.length_map, List.length_range]
    exact q
theorem c_fresh {O : Ora} (s0 s4 x5 x6 : Sl) (many lt : D) (ns : List Str) (hn : ns.length ≤ 1000) {P : RV → Ev → Prop} {E : Xn → Ev → Prop}
    (q : P (.own (.lst (strL (twos.filter fun x => !decide (x ∈ ns))))) [s0, .val many, .val lt, .own (.lst (strL ns)), s4, x5, x6, .val (.list (strL twos)), .emp, .emp]) :
    WG (ev O q_law_names_2 [s0, .val many, .val lt, .own (.lst (strL ns)), s4, x5, x6, .own (.lst (strL twos)), .emp, .emp]) P E := by
  unfold q_law_names_2
  refine e_comp <| i_v <| (e_own rfl).mpr <| w_frzs rfl ⟨strL twos, rfl, rfl, w_wipe1 (x := .emp) rfl rfl ?_⟩
  refine wp_comp (fun i acc s => acc = strL ((twos.take i).filter fun x => !decide (x ∈ ns)) ∧ s = [s0, .val many, .val lt, .own (.lst (strL ns)), s4, x5, x6, .val (.list (strL twos)), .emp, .emp]) (fun i x acc s hx ⟨ea, es⟩ => ?_) (fun acc s ⟨ea, es⟩ => ?_) ⟨rfl, rfl⟩
  · subst ea es
    have hi : i < twos.length := by
      have := (List.getElem?_eq_some_iff.mp hx).1
      rw [strL, List.length_map] at this
      exact this
    obtain ⟨y, hy, rfl⟩ : ∃ y, twos[i]? = some y ∧ x = PyData.str y := by
      rw [strL, List.getElem?_map, List.getElem?_eq_getElem hi] at hx
      cases hx
      exact ⟨_, List.getElem?_eq_getElem hi, rfl⟩
    have tk : twos.take (i + 1) = twos.take i ++ [y] := by
      rw [List.take_add_one, hy]
      rfl
    have no : cmpD .NotIn (.str y) (.list (strL ns)) = some (!decide (y ∈ ns)) := by
      show (isIn _ _).map not = _
      rw [in_strs]
      rfl
    refine bind_nm (x := .emp) rfl rfl <| t_one <| e_cmp.mpr <| (e_val rfl).mpr <| (e_own rfl).mpr ⟨_, _, rfl, rfl, _, no, _, rfl, ?_⟩
    by_cases c : y ∈ ns
    · rw [decide_eq_true c]
      refine w_wipe1 (x := .val (.str y)) rfl rfl ⟨?_, rfl⟩
      rw [tk, List.filter_append, List.filter_cons, decide_eq_true c]
      simp
    · rw [decide_eq_false c]
      refine WG_bind.mpr <| (e_val rfl).mpr <| w_frzd ⟨?_, w_wipe1 (x := .val (.str y)) rfl rfl ⟨?_, rfl⟩⟩
      · rw [strL, List.length_map, sl16]
        have := List.length_filter_le (fun x => !decide (x ∈ ns)) (twos.take i)
        have l2 : twos.length = 676 := by rw [twos, List.length_map, List.length_range]
        have l3 : (twos.take i).length ≤ i := List.length_take_le ..
        omega
      · rw [tk, List.filter_append, List.filter_cons, decide_eq_false c]
        exact strL_snoc.symm
  · subst ea es
    have e : (strL twos).length = twos.length := List.length_map ..
    rw [e, List.take_length]
    exact q
end
end ND

/-! ND7: unlike names drawn. -/
namespace ND
open PySem GS
section
variable {p : Prog}
theorem r_names (N : Has p) (k : Nat) (d : Dr) (b : Int) (h : d.Ok b) (hb : b + 100000 < 2 ^ 38) (n : Nat) (hn : n ≤ 70)
    {P : RV → Option Ob → Prop} {E : Xn → Option Ob → Prop} (q : ∀ (ns : List Str) (d' : Dr), ns.length = n → ns.Nodup → (∀ x ∈ ns, IsName x) → d'.Ok (b + 20 * n) → P (.own (.lst (strL ns))) (some d'.ob)) :
    wpR (run p (k + 3) "_law_names" [.io d.ob, .d (.int n)]) P E := by
  refine wp_run N.f_law_names rfl fun O hΦ hG hΛ => ?_
  have Dw := draws N hΦ
  show WG (exB O k_law_names [.io d.ob, .val (.int n), .emp, .emp, .emp, .emp, .emp, .emp, .emp, .emp]) _ _
  unfold k_law_names
  refine b_cons.mpr <| s_set.mpr <| e_con.mpr <| put_v (x := .emp) rfl rfl <| b_cons.mpr <| s_set.mpr <| e_lst.mpr <| e_nil.mpr <| w_frzL (ds := []) ⟨Nat.zero_le _, put_o (x := .emp) rfl rfl ?_⟩
  refine b_cons.mpr ?_
  unfold q_law_names_3
  refine s_whl (hΛ.trans N.loop) (fun m s => ∃ (ns : List Str) (d' : Dr) (x4 x5 x6 x7 : Sl), s = [.io d'.ob, .val (.int n), .val (.str letS), .own (.lst (strL ns)), x4, x5, x6, x7, .emp, .emp] ∧ isIo (some x4) = false ∧ isIo (some x5) = false ∧ isIo (some x6) = false ∧ isIo (some x7) = false ∧
      m = n - ns.length ∧ ns.length ≤ n ∧ ns.Nodup ∧ (∀ x ∈ ns, IsName x) ∧ d'.Ok (b + 20 * ns.length)) n
    ⟨[], d, .emp, .emp, .emp, .emp, rfl, rfl, rfl, rfl, rfl, rfl, Nat.zero_le _, List.nodup_nil, (fun _ z => nomatch z), by simpa using h⟩ ?_
  rintro m s ⟨ns, d0, x4, x5, x6, x7, rfl, i4, i5, i6, i7, rfl, ln, nd, ok, h0⟩
  have lL : ∀ l : List Str, (strL l).length = l.length := fun l => List.length_map ..
  refine e_cmp.mpr <| e_len (.inl rfl) <| (e_val rfl).mpr ⟨_, _, rfl, rfl, _, rfl, _, rfl, ?_⟩
  rw [lL]
  by_cases lt : (ns.length : Int) < n
  · rw [decide_eq_true lt]
    -- the size
    refine b_cons.mpr <| s_set.mpr <| w_pick Dw <| e_cons.mpr <| e_con.mpr <| e_cons.mpr <| e_bin.mpr <| e_con.mpr <| w_nextc Dw rfl h0 (by omega) (by decide) (by decide) fun v1 d1 v10 v11 h1 => ⟨_, _, rfl, rfl, _, rfl, e_cons.mpr <| e_bin.mpr <| e_con.mpr <| w_nextc Dw rfl h1 (by omega) (by decide) (by decide) fun v2 d2 v20 v21 h2 =>
      ⟨_, _, rfl, rfl, _, rfl, e_cons.mpr <| e_con.mpr <| e_nil.mpr ⟨[.int 1, .int (1 + v1), .int (1 + v2), .int 8], d2, _, rfl, rfl, by decide, by decide, rfl, h2, by omega, fun r hr d3 h3 => ?_⟩⟩⟩
    obtain ⟨sz, rfl, s1, s8⟩ : ∃ sz : Nat, r = .int sz ∧ 1 ≤ sz ∧ sz ≤ 8 := by
      simp only [List.mem_cons, List.not_mem_nil, or_false] at hr
      rcases hr with rfl | rfl | rfl | rfl
      · exact ⟨1, rfl, by omega, by omega⟩
      · exact ⟨(1 + v1).toNat, by rw [Int.toNat_of_nonneg (by omega)], by omega, by omega⟩
      · exact ⟨(1 + v2).toNat, by rw [Int.toNat_of_nonneg (by omega)], by omega, by omega⟩
      · exact ⟨8, rfl, by omega, by omega⟩
    refine put_v (x := x4) rfl i4 <| b_cons.mpr <| s_set.mpr <| e_meth <| e_con.mpr ⟨rfl, e_cons.mpr <| c_letters Dw h3 (by omega) sz (by omega) _ _ _ _ _ _ fun ys d4 ly wy h4 => e_nil.mpr ?_⟩
    rw [if_neg (by decide)]
    refine w_opt.mpr ⟨[.list (strL ys)], rfl, _, _, rfl, m_join wy (by omega), ?_⟩
    have nm0 : IsName (Str.join (Str.ofString "") ys) := ⟨sz, s1, s8, ly ▸ join_nm wy⟩
    refine put_v (x := x5) rfl i5 ?_
    generalize Str.join (Str.ofString "") ys = nm at nm0 ⊢
    -- from the name on
    have last : ∀ (nm : Str) (d6 : Dr) (y6 y7 : Sl), IsName nm → nm ∉ ns → isIo (some y6) = false → isIo (some y7) = false → d6.Ok (b + 20 * (ns.length + 1)) → WG (exB O (.cons (.ex (.mut "append" 3 (.cons (.var 5) .nil))) .nil) [.io d6.ob, .val (.int n), .val (.str letS), .own (.lst (strL ns)), .val (.int sz), .val (.str nm), y6, y7, .emp, .emp])
        (fun f s => match f with
          | .nx => ∃ m, m < n - ns.length ∧ ∃ (ns : List Str) (d' : Dr) (x4 x5 x6 x7 : Sl), s = [.io d'.ob, .val (.int n), .val (.str letS), .own (.lst (strL ns)), x4, x5, x6, x7, .emp, .emp] ∧ isIo (some x4) = false ∧ isIo (some x5) = false ∧ isIo (some x6) = false ∧ isIo (some x7) = false ∧ m = n - ns.length ∧ ns.length ≤ n ∧ ns.Nodup ∧ (∀ x ∈ ns, IsName x) ∧ d'.Ok (b + 20 * ns.length)
          | _ => False) fun _ _ => False := by
      intro nm d6 y6 y7 isN out i6 i7 h6
      refine b_cons.mpr <| s_ex.mpr <| e_mut ⟨rfl, e_cons.mpr <| (e_val rfl).mpr <| e_nil.mpr <| w_frzL (ds := [.str nm]) ⟨strL ns, .none, .lst (strL (ns ++ [nm])), rfl, ?_, b_nil.mpr ⟨n - (ns.length + 1), by omega, ns ++ [nm], d6, _, _, y6, y7, rfl, rfl, rfl, i6, i7, ?_, ?_, ?_, ?_, ?_⟩⟩⟩
      · show (if (strL ns).length < sizeLine then some (PyData.none, Ob.lst (strL ns ++ [.str nm])) else none) = _
        rw [if_pos (by rw [lL, sl16]; omega), strL_snoc]
      · rw [List.length_append]; rfl
      · rw [List.length_append, List.length_singleton]; omega
      · exact List.nodup_append.mpr ⟨nd, List.pairwise_singleton _ _, fun a ha c hc e => out (by rw [List.mem_singleton.mp hc] at e; exact e ▸ ha)⟩
      · intro x hx
        rcases List.mem_append.mp hx with hx | hx
        · exact ok x hx
        · rw [List.mem_singleton.mp hx]; exact isN
      · rw [List.length_append, List.length_singleton]
        exact h6
    have weaken : ∀ {st : CSs} {s : Ev}, WG (exB O st s) (fun f s => match f with
          | .nx => ∃ m, m < n - ns.length ∧ ∃ (ns : List Str) (d' : Dr) (x4 x5 x6 x7 : Sl), s = [.io d'.ob, .val (.int n), .val (.str letS), .own (.lst (strL ns)), x4, x5, x6, x7, .emp, .emp] ∧ isIo (some x4) = false ∧ isIo (some x5) = false ∧ isIo (some x6) = false ∧ isIo (some x7) = false ∧ m = n - ns.length ∧ ns.length ≤ n ∧ ns.Nodup ∧ (∀ x ∈ ns, IsName x) ∧ d'.Ok (b + 20 * ns.length)
          | _ => False) (fun _ _ => False) → ∀ {Q : Fl → Ev → Prop} {E : Xn → Ev → Prop}, (∀ s, (∃ m, m < n - ns.length ∧ ∃ (ns : List Str) (d' : Dr) (x4 x5 x6 x7 : Sl), s = [.io d'.ob, .val (.int n), .val (.str letS), .own (.lst (strL ns)), x4, x5, x6, x7, .emp, .emp] ∧ isIo (some x4) = false ∧ isIo (some x5) = false ∧ isIo (some x6) = false ∧ isIo (some x7) = false ∧ m = n - ns.length ∧ ns.length ≤ n ∧ ns.Nodup ∧ (∀ x ∈ ns, IsName x) ∧ d'.Ok (b + 20 * ns.length)) → Q .nx s) → WG (exB O st s) Q E := fun w Q E g => w.mono (fun f s z => by
        cases f with
        | nx => exact g s z
        | _ => exact z.elim) fun _ _ z => z.elim
    -- in found?
    have mid : ∀ (nm : Str) (d5 : Dr) (y6 : Sl), IsName nm → isIo (some y6) = false → d5.Ok (b + 20 * ns.length + 17) → WG (exB O (.cons (.ife (.cmp .In (.var 5) (.var 3)) (.cons (.set 7 q_law_names_1) (.cons (.set 5 (.idx q_law_names_2 (.call ("_law_next" : Str) (.cons (.var 0) (.cons (.con (.int (600))) .nil)) [.io 0, .pos 1]))) .nil)) .nil) (.cons (.ex (.mut "append" 3 (.cons (.var 5) .nil))) .nil))
        [.io d5.ob, .val (.int n), .val (.str letS), .own (.lst (strL ns)), .val (.int sz), .val (.str nm), y6, x7, .emp, .emp])
        (fun f s => match f with
          | .nx => ∃ m, m < n - ns.length ∧ ∃ (ns : List Str) (d' : Dr) (x4 x5 x6 x7 : Sl), s = [.io d'.ob, .val (.int n), .val (.str letS), .own (.lst (strL ns)), x4, x5, x6, x7, .emp, .emp] ∧ isIo (some x4) = false ∧ isIo (some x5) = false ∧ isIo (some x6) = false ∧ isIo (some x7) = false ∧ m = n - ns.length ∧ ns.length ≤ n ∧ ns.Nodup ∧ (∀ x ∈ ns, IsName x) ∧ d'.Ok (b + 20 * ns.length)
          | _ => False) fun _ _ => False := by
      intro nm d5 y6 isN i6 h5
      refine b_cons.mpr <| s_ife.mpr <| e_cmp.mpr <| (e_val rfl).mpr <| (e_own rfl).mpr ⟨_, _, rfl, rfl, _, in_strs nm ns, _, rfl, ?_⟩
      by_cases c : nm ∈ ns
      · rw [decide_eq_true c]
        refine b_cons.mpr <| s_set.mpr <| c_twos _ _ _ _ _ _ _ _ <| put_o (x := x7) rfl i7 <| b_cons.mpr <| s_set.mpr <| e_idx.mpr <| c_fresh _ _ _ _ _ _ ns (by omega) <| w_nextc Dw rfl h5 (by omega) (by decide) (by decide) fun v d6 v0 v1 h6 => ?_
        have long := filter_out ns twos twos_nodup
        have l2 : twos.length = 676 := by rw [twos, List.length_map, List.length_range]
        obtain ⟨r, hr, e⟩ := idx_pick (ds := strL (twos.filter fun x => !decide (x ∈ ns))) v0 (by rw [lL]; omega)
        obtain ⟨x, hx, rfl⟩ := List.mem_map.mp hr
        obtain ⟨hx1, hx2⟩ := List.mem_filter.mp hx
        obtain ⟨j, hj, rfl⟩ := List.mem_map.mp hx1
        refine ⟨_, _, rfl, rfl, _, e, put_v (x := .val (.str nm)) rfl rfl <| b_nil.mpr <| last (two j) d6 _ _ (i_name1 (two_nm (List.mem_range.mp hj))) (by simpa using hx2) i6 rfl (h6.mono (by omega))⟩
      · rw [decide_eq_false c]
        exact b_nil.mpr <| last nm d5 _ _ isN c i6 i7 (h5.mono (by omega))
    refine b_cons.mpr <| s_ife.mpr <| e_cmp.mpr <| w_nextc Dw rfl h4 (by omega) (by decide) (by decide) fun v d5 v0 v1 h5 => e_con.mpr ⟨_, _, rfl, rfl, _, eq_int _ _, _, rfl, ?_⟩
    by_cases z : v = 0
    · rw [decide_eq_true z]
      refine b_cons.mpr <| s_set.mpr <| e_meth <| e_con.mpr ⟨rfl, e_cons.mpr <| e_con.mpr <| e_nil.mpr ?_⟩
      rw [if_neg (by decide)]
      refine w_opt.mpr ⟨[.str " "], rfl, _, _, rfl, m_split, put_o (x := x6) rfl i6 <| b_cons.mpr <| s_set.mpr <| e_idx.mpr <| (e_own rfl).mpr <| w_nextc Dw rfl h5 (by omega) (by decide) (by decide) fun v d6 v0 v1 h6 => ?_⟩
      obtain ⟨r, hr, e⟩ := idx_pick (ds := strL words) v0 v1
      obtain ⟨w, hw, rfl⟩ := List.mem_map.mp hr
      refine ⟨_, _, rfl, rfl, _, e, put_v (x := .val (.str nm)) rfl rfl <| b_nil.mpr <| weaken (mid w d6 _ (words_ok w hw) rfl (h6.mono (by omega))) fun s z => z⟩
    · rw [decide_eq_false z]
      exact b_nil.mpr <| weaken (mid nm d5 _ nm0 i6 (h5.mono (by omega))) fun s z => z
  · rw [decide_eq_false lt]
    have e : ns.length = n := by omega
    exact b_cons.mpr <| s_ret.mpr <| (e_own rfl).mpr <| w_rets rfl (q ns d0 e nd ok (e ▸ h0))
end
end ND

/-! ND8: rows in slots, maps, how many paths there are. -/
namespace ND
open PySem GS
section
variable {O : Ora} {s : Ev} {P : RV → Ev → Prop} {E : Xn → Ev → Prop} {a b e : GS.CE} {it : CI} {i : Nat} {Q : Fl → Ev → Prop}
/-- a slot that holds a list, owned or not -/
def LSl (x : Sl) (xs : List D) : Prop := x = .own (.lst xs) ∨ x = .val (.list xs)
theorem LSl.io {x : Sl} {xs : List D} (h : LSl x xs) : isIo (some x) = false := by
  rcases h with rfl | rfl <;> rfl
theorem set_same {x : Sl} (h : s[i]? = some x) : s.set i x = s := by
  apply List.ext_getElem?
  intro j
  rw [List.getElem?_set]
  split
  · rename_i e
    subst e
    rw [if_pos (List.getElem?_eq_some_iff.mp h).1, h]
  · rfl
theorem e_lv {x : Sl} {xs : List D} (hs : s[i]? = some x) (l : LSl x xs) (q : ∀ rv : RV, rv.opd.get s = some (.list xs) → P rv s) : WG (ev O (.var i) s) P E := by
  rcases l with rfl | rfl
  · refine (e_own hs).mpr (q _ ?_)
    show (match s[i]? with
      | some (.val x) => some x
      | some (.own o) => some o.toD
      | some (.io o) => some o.toD
      | _ => none) = _
    rw [hs]
    rfl
  · exact (e_val hs).mpr (q _ rfl)
theorem i_lv {x : Sl} {xs : List D} {QI : List D → Ev → Prop} (hs : s[i]? = some x) (l : LSl x xs) (q : QI xs (s.set i (.val (.list xs)))) : WG (evI O (.v (.var i)) s) QI E := by
  rcases l with rfl | rfl
  · exact i_v <| (e_own hs).mpr <| w_frzs hs ⟨xs, rfl, q⟩
  · rw [set_same hs] at q
    exact i_v <| (e_val hs).mpr <| w_frzd ⟨xs, rfl, q⟩
/-- [e for i in it], turn by turn alike -/
theorem e_map (h : WG (evI O it s) (fun xs s1 => ∃ (x0 : Sl) (g : D → D), s1[i]? = some x0 ∧ isOwn (some x0) = false ∧ xs.length ≤ sizeLine ∧ (∀ x ∈ xs, WG (ev O e ((s1.set i .emp).set i (.val x))) (fun v s' => WG (frz v s') (fun d s2 => d = g x ∧ s2 = (s1.set i .emp).set i (.val x)) fun _ _ => False) fun _ _ => False) ∧ P (.own (.lst (xs.map g))) s1) E) :
    WG (ev O (.comp [i] (.nm i) it .nil e) s) P E := by
  refine e_comp (h.mono (fun xs s1 h => ?_) fun _ _ z => z)
  obtain ⟨x0, g, hs, hx, l, turn, q⟩ := h
  have hi := (List.getElem?_eq_some_iff.mp hs).1
  refine ⟨by simp [tgIn], w_wipe1 hs hx ?_⟩
  have se : (s1.set i .emp)[i]? = some .emp := List.getElem?_set_self hi
  refine wp_comp (fun k acc s => acc = (xs.take k).map g ∧ s = s1.set i .emp) (fun k x acc s hk ⟨ea, es⟩ => ?_) (fun acc s ⟨ea, es⟩ => ?_) ⟨by rw [List.take_zero]; rfl, rfl⟩
  · subst ea es
    have lt := (List.getElem?_eq_some_iff.mp hk).1
    refine bind_nm se rfl <| t_nil <| WG_bind.mpr <| (turn x (List.mem_of_getElem? hk)).mono (fun v s' h => h.mono (fun d s2 ⟨ed, e2⟩ => ?_) fun _ _ z => z.elim) fun _ _ z => z.elim
    subst ed e2
    refine ⟨by rw [List.length_map, List.length_take]; omega, w_wipe1 (List.getElem?_set_self (by rw [List.length_set]; exact hi)) rfl ⟨?_, ?_⟩⟩
    · rw [List.take_add_one, hk, List.map_append]; rfl
    · rw [List.set_set]
      exact set_same se
  · subst ea es
    rw [List.take_length]
    have : backS s1 (s1.set i .emp) [i] = s1 := by
      show (s1.set i .emp).set i ((s1[i]?).getD .emp) = s1
      rw [List.set_set, hs]
      exact set_same hs
    rw [this]
    exact q
theorem s_dput (h : WG (ev O b s) (fun x s => WG (frz x s) (fun x s => (ownAt s i).isNone = false ∧ WG (ev O a s) (fun y s => WG (frz y s) (fun y s => ∃ kvs, ownAt s i = some (.dic kvs) ∧ keyOk y = true ∧ kvs.length < sizeLine ∧ Q .nx (setOb s i (.dic (putD y x kvs)))) E) E) E) E) : WG (exS O (.dput i a b) s) Q E := by
  refine WG_bind.mpr (h.mono (fun x s h => WG_bind.mpr (h.mono (fun x s h => ?_) fun _ _ z => z)) fun _ _ z => z)
  obtain ⟨e1, h⟩ := h
  rw [e1, if_neg Bool.false_ne_true]
  refine WG_bind.mpr (h.mono (fun y s h => WG_bind.mpr (h.mono (fun y s h => ?_) fun _ _ z => z)) fun _ _ z => z)
  obtain ⟨kvs, e2, e3, e4, q⟩ := h
  rw [e2]
  show WG (match (if keyOk y && decide (kvs.length < sizeLine) then some (PyData.none, Ob.dic (putD y x kvs)) else none) with
    | some (_, o') => Rs.ok Fl.nx (setOb s i o')
    | none => .stuck) Q E
  rw [e3, decide_eq_true e4]
  exact w_ok.mpr q
end
/-! ### a dict with texts for keys -/
theorem keyEq_str (j : D) (a : Str) : keyEq j (.str a) = true ↔ j = .str a := by
  cases j <;> simp [keyEq]
theorem look_put (a b : Str) (v : D) : ∀ kvs : List (D × D), lookD (.str a) (putD (.str b) v kvs) = if a = b then some v else lookD (.str a) kvs := by
  intro kvs
  have mp : ∀ kvs : List (D × D), (kvs.any fun p => keyEq p.1 (.str b)) = true → lookD (.str a) (kvs.map fun p => if keyEq p.1 (.str b) then (p.1, v) else p) = if a = b then some v else lookD (.str a) kvs := by
    intro kvs
    induction kvs with
    | nil => intro h; cases h
    | cons p r ih =>
      intro h
      obtain ⟨j, w⟩ := p
      rw [List.map_cons]
      by_cases e : keyEq j (.str b) = true
      · have ej := (keyEq_str j b).mp e
        subst ej
        rw [if_pos e]
        show (if keyEq (.str b) (.str a) then some v else lookD (.str a) _) = _
        by_cases ab : a = b
        · subst ab; rw [if_pos e, if_pos rfl]
        · have n : ¬ keyEq (.str b) (.str a) = true := fun z => ab (by have := (keyEq_str _ _).mp z; cases this; rfl)
          rw [if_neg n, if_neg ab]
          show _ = (if keyEq (.str b) (.str a) then some w else lookD (.str a) r)
          rw [if_neg n]
          by_cases hr : (r.any fun p => keyEq p.1 (.str b)) = true
          · rw [ih hr, if_neg ab]
          · have same : (r.map fun p => if keyEq p.1 (.str b) then (p.1, v) else p) = r := by
              have : ∀ p ∈ r, (if keyEq p.1 (.str b) then (p.1, v) else p) = p := fun p hp => if_neg fun z => hr (List.any_eq_true.mpr ⟨p, hp, z⟩)
              exact (List.map_congr_left this).trans (List.map_id r)
            rw [same]
      · rw [if_neg e]
        have hr : (r.any fun p => keyEq p.1 (.str b)) = true := by
          rw [List.any_cons, Bool.or_eq_true] at h
          exact h.resolve_left e
        show (if keyEq j (.str a) then some w else lookD (.str a) _) = if a = b then some v else (if keyEq j (.str a) then some w else lookD (.str a) r)
        rw [ih hr]
        by_cases ja : keyEq j (.str a) = true
        · have ab : ¬ a = b := fun z => e (by rw [← z]; exact ja)
          rw [if_pos ja, if_neg ab, if_pos ja]
        · rw [if_neg ja, if_neg ja]
  have ap : ∀ kvs : List (D × D), ¬ (kvs.any fun p => keyEq p.1 (.str b)) = true → lookD (.str a) (kvs ++ [(.str b, v)]) = if a = b then some v else lookD (.str a) kvs := by
    intro kvs
    induction kvs with
    | nil =>
      intro _
      show (if keyEq (.str b) (.str a) then some v else none) = _
      by_cases ab : a = b
      · subst ab; rw [if_pos ((keyEq_str _ _).mpr rfl), if_pos rfl]
      · rw [if_neg (fun z => ab (by have := (keyEq_str _ _).mp z; cases this; rfl)), if_neg ab]; rfl
    | cons p r ih =>
      intro h
      obtain ⟨j, w⟩ := p
      rw [List.any_cons, Bool.or_eq_true] at h
      have hj : ¬ keyEq j (.str b) = true := fun z => h (.inl z)
      show (if keyEq j (.str a) then some w else lookD (.str a) (r ++ [(.str b, v)])) = if a = b then some v else (if keyEq j (.str a) then some w else lookD (.str a) r)
      rw [ih fun z => h (.inr z)]
      by_cases ja : keyEq j (.str a) = true
      · have ab : ¬ a = b := fun z => hj (by rw [← z]; exact ja)
        rw [if_pos ja, if_neg ab, if_pos ja]
      · rw [if_neg ja, if_neg ja]
  unfold putD
  by_cases h : (kvs.any fun p => keyEq p.1 (.str b)) = true
  · rw [if_pos h]; exact mp kvs h
  · rw [if_neg h]; exact ap kvs h
/-! ### how many paths there are -/
def cnt0 (starts : List Str) : Str → Int := fun x => if x ∈ starts then 1 else 0
def cntG (f : Str → Int) (g : Gate) : Str → Int := fun x => if x = g.name then (g.pins.map f).sum else f x
def cnt (starts : List Str) (gs : List Gate) : Str → Int := gs.foldl cntG (cnt0 starts)
/-- each gate's pins lie ahead -/
def Fed (starts : List Str) (gs : List Gate) : Prop := ∀ (a b : List Gate) (g : Gate), gs = a ++ g :: b → ∀ x ∈ g.pins, x ∈ starts ++ a.map (·.name)
theorem sum_ints (ns : List Int) : (lstD (.list (ns.map PyData.int))).bind intsD = some ns := by
  show intsD (ns.map PyData.int) = _
  induction ns with
  | nil => rfl
  | cons n r ih =>
    show (intsD (r.map PyData.int)).map (n :: ·) = _
    rw [ih]
    rfl
theorem not_fn {kvs : List (D × D)} {x : Str} {v : D} (h : lookD (.str x) kvs = some v) : isFnB kvs = false := by
  cases hb : isFnB kvs with
  | false => rfl
  | true =>
    unfold isFnB at hb
    split at hb
    · cases h
    · cases hb
theorem idx_dic {kvs : List (D × D)} {x : Str} {v : D} (h : lookD (.str x) kvs = some v) : idxD (.dict kvs) (.str x) = some v := by
  show (if keyOk (.str x) && !isFnB kvs then lookD (.str x) kvs else none) = _
  rw [not_fn h, if_pos (show (keyOk (.str x) && !false) = true from rfl)]
  exact h
theorem b_sum {ns : List Int} : biD "sum" [.list (ns.map PyData.int)] = some (.d (.int ns.sum)) := by
  show ((lstD (.list (ns.map PyData.int))).bind intsD).map (fun ns => RV.d (.int ns.sum)) = _
  rw [sum_ints]
  rfl
section
variable {p : Prog}
theorem r_many (N : Has p) (k : Nat) (gs : List Gate) (ends starts : List Str) (l1 : gs.length ≤ 900) (l2 : ends.length ≤ 900) (l3 : starts.length ≤ 900) (lp : ∀ g ∈ gs, g.pins.length ≤ 900) (fed : Fed starts gs) (he : ∀ x ∈ ends, x ∈ starts ++ gs.map (·.name))
    {P : RV → Option Ob → Prop} {E : Xn → Option Ob → Prop} (q : P (.d (.int (ends.map (cnt starts gs)).sum)) none) :
    wpR (run p (k + 1) "_law_many" [.d (.list (gs.map Gate.toD)), .d (.list (strL ends)), .d (.list (strL starts))]) P E := by
  refine wp_run N.f_law_many rfl fun O hΦ hG hΛ => ?_
  show WG (exB O k_law_many [.val (.list (gs.map Gate.toD)), .val (.list (strL ends)), .val (.list (strL starts)), .emp, .emp, .emp, .emp]) _ _
  unfold k_law_many
  have e0 : WG (ev O (.dic [] .nil) [.val (.list (gs.map Gate.toD)), .val (.list (strL ends)), .val (.list (strL starts)), .emp, .emp, .emp, .emp]) (fun v s => v = .own (.dic []) ∧ s = [.val (.list (gs.map Gate.toD)), .val (.list (strL ends)), .val (.list (strL starts)), .emp, .emp, .emp, .emp]) fun _ _ => False := w_ok.mpr ⟨rfl, rfl⟩
  refine b_cons.mpr <| s_set.mpr <| e0.mono (fun v s ⟨e1, e2⟩ => ?_) fun _ _ z => z.elim
  subst e1 e2
  refine put_o (x := .emp) rfl rfl ?_
  unfold q_law_many_0
  refine b_cons.mpr <| s_for <| i_v <| (e_val rfl).mpr <| w_frzd ⟨strL starts, rfl, ?_⟩
  refine ⟨fun i s => ∃ (kvs : List (D × D)) (x4 : Sl), s = [.val (.list (gs.map Gate.toD)), .val (.list (strL ends)), .val (.list (strL starts)), .own (.dic kvs), x4, .emp, .emp] ∧ isIo (some x4) = false ∧ isOwn (some x4) = false ∧ kvs.length ≤ i ∧ ∀ x ∈ starts.take i, lookD (.str x) kvs = some (.int 1),
    ⟨[], .emp, rfl, rfl, rfl, Nat.le_refl _, by rw [List.take_zero]; exact fun _ z => nomatch z⟩, fun i x s hx ⟨kvs, x4, es, i4, o4, lk, hk⟩ => ?_, fun s ⟨kvs, x4, es, i4, o4, lk, hk⟩ => ?_⟩
  · subst es
    have hi : i < starts.length := by
      have := (List.getElem?_eq_some_iff.mp hx).1
      rw [strL, List.length_map] at this
      exact this
    have ex : x = .str starts[i] := by
      rw [strL, List.getElem?_map, List.getElem?_eq_getElem hi] at hx
      cases hx
      rfl
    subst ex
    have pl := putD_len (.str starts[i]) (.int 1) kvs
    refine bind_nm (x := x4) rfl i4 <| b_cons.mpr <| s_dput <| e_con.mpr <| w_frzd ⟨rfl, (e_val rfl).mpr <| w_frzd ⟨kvs, rfl, rfl, by rw [sl16]; omega, b_nil.mpr ⟨putD (.str starts[i]) (.int 1) kvs, _, rfl, rfl, rfl, by omega, fun y hy => ?_⟩⟩⟩
    rw [look_put]
    split
    · rfl
    · rename_i ne
      rw [List.take_add_one, List.getElem?_eq_getElem hi] at hy
      rcases List.mem_append.mp hy with hy | hy
      · exact hk y hy
      · exact absurd (by simpa using hy) ne
  · subst es
    have l0 : (strL starts).length = starts.length := List.length_map ..
    rw [l0, List.take_length] at hk
    rw [l0] at lk
    unfold q_law_many_2
    refine b_cons.mpr <| s_for <| i_v <| (e_val rfl).mpr <| w_frzd ⟨gs.map Gate.toD, rfl, ?_⟩
    refine ⟨fun i s => ∃ (kvs : List (D × D)) (x5 : Sl), s = [.val (.list (gs.map Gate.toD)), .val (.list (strL ends)), .val (.list (strL starts)), .own (.dic kvs), x4, x5, .emp] ∧ isIo (some x5) = false ∧ kvs.length ≤ starts.length + i ∧ ∀ x ∈ starts ++ (gs.take i).map (·.name), lookD (.str x) kvs = some (.int (cnt starts (gs.take i) x)),
      ⟨kvs, .emp, rfl, rfl, lk, fun x hx => ?_⟩, fun i x s hx ⟨kvs, x5, es, i5, lk, hk⟩ => ?_, fun s ⟨kvs, x5, es, i5, lk, hk⟩ => ?_⟩
    · rw [List.take_zero, List.map_nil, List.append_nil] at hx
      rw [hk x hx]
      show _ = some (PyData.int (if x ∈ starts then 1 else 0))
      rw [if_pos hx]
    · subst es
      have hi : i < gs.length := by
        have := (List.getElem?_eq_some_iff.mp hx).1
        rw [List.length_map] at this
        exact this
      have ex : x = gs[i].toD := by
        rw [List.getElem?_map, List.getElem?_eq_getElem hi] at hx
        cases hx
        rfl
      subst ex
      have tk : gs.take (i + 1) = gs.take i ++ [gs[i]] := by rw [List.take_add_one, List.getElem?_eq_getElem hi]; rfl
      have cn : cnt starts (gs.take (i + 1)) = cntG (cnt starts (gs.take i)) gs[i] := by
        unfold cnt
        rw [tk, List.foldl_append]
        rfl
      have split : gs = gs.take i ++ gs[i] :: gs.drop (i + 1) := by rw [← List.drop_eq_getElem_cons hi, List.take_append_drop]
      have pin := fed _ _ _ split
      have pl := putD_len (.str gs[i].name) (.int (gs[i].pins.map (cnt starts (gs.take i))).sum) kvs
      have lpi := lp gs[i] (List.getElem_mem hi)
      refine bind_nm (x := x5) rfl i5 <| b_cons.mpr <| s_dput <| e_bi.mpr <| e_cons.mpr ?_
      unfold q_law_many_1
      refine e_map <| i_v <| e_idx.mpr <| (e_val rfl).mpr <| e_con.mpr ⟨_, _, rfl, rfl, .tuple (strL gs[i].pins), rfl, w_frzd ⟨strL gs[i].pins, rfl, .emp, fun y => .int (cnt starts (gs.take i) (unS y)), rfl, rfl, by rw [strL, List.length_map, sl16]; omega, fun y hy => ?_, ?_⟩⟩
      · obtain ⟨z, hz, rfl⟩ := List.mem_map.mp hy
        exact e_idx.mpr <| (e_own rfl).mpr <| (e_val rfl).mpr ⟨_, _, rfl, rfl, _, idx_dic (hk z (pin z hz)), w_frzd ⟨rfl, rfl⟩⟩
      · have em : (strL gs[i].pins).map (fun y => PyData.int (cnt starts (gs.take i) (unS y))) = (gs[i].pins.map (cnt starts (gs.take i))).map PyData.int := by
          unfold strL
          rw [List.map_map, List.map_map]
          rfl
        rw [em]
        refine e_nil.mpr ⟨_, b_sum, w_frzd ⟨rfl, e_idx.mpr <| (e_val rfl).mpr <| e_con.mpr ⟨_, _, rfl, rfl, .str gs[i].name, rfl, w_frzd ⟨kvs, rfl, rfl, by rw [sl16]; omega, b_nil.mpr ⟨_, _, rfl, rfl, by omega, fun y hy => ?_⟩⟩⟩⟩⟩
        rw [look_put, cn]
        show _ = some (PyData.int (if y = gs[i].name then (gs[i].pins.map (cnt starts (gs.take i))).sum else cnt starts (gs.take i) y))
        split
        · rfl
        · rename_i ne
          rw [tk, List.map_append, ← List.append_assoc] at hy
          rcases List.mem_append.mp hy with hy | hy
          · exact hk y hy
          · exact absurd (by simpa using hy) ne
    · subst es
      have l0 : (gs.map Gate.toD).length = gs.length := List.length_map ..
      rw [l0, List.take_length] at hk
      unfold q_law_many_3
      refine b_cons.mpr <| s_ret.mpr <| e_bi.mpr <| e_cons.mpr <| e_map <| i_v <| (e_val rfl).mpr <| w_frzd ⟨strL ends, rfl, x4, fun y => .int (cnt starts gs (unS y)), rfl, o4, by rw [strL, List.length_map, sl16]; omega, fun y hy => ?_, ?_⟩
      · obtain ⟨z, hz, rfl⟩ := List.mem_map.mp hy
        exact e_idx.mpr <| (e_own rfl).mpr <| (e_val rfl).mpr ⟨_, _, rfl, rfl, _, idx_dic (hk z (he z hz)), w_frzd ⟨rfl, rfl⟩⟩
      · have em : (strL ends).map (fun y => PyData.int (cnt starts gs (unS y))) = (ends.map (cnt starts gs)).map PyData.int := by
          unfold strL
          rw [List.map_map, List.map_map]
          rfl
        rw [em]
        exact e_nil.mpr ⟨_, b_sum, w_retd q⟩
end
end ND

/-! ND9: netlists, what they are; slices, turns of the gates. -/
namespace ND
open PySem GS
structure Reg where
  name : Str
  data : Str
  su : Int
  ho : Int
  lo : Int
  hi : Int
def Reg.toD (r : Reg) : D := .tuple [.str r.name, .str r.data, .int r.su, .int r.ho, .int r.lo, .int r.hi]
def Reg.Ok (r : Reg) : Prop := (0 ≤ r.su ∧ r.su ≤ 999) ∧ (0 ≤ r.ho ∧ r.ho ≤ 11) ∧ (-999 ≤ r.lo ∧ r.lo ≤ 0) ∧ (0 ≤ r.hi ∧ r.hi ≤ 999)
def outD (o : Str × Str) : D := .tuple [.str o.1, .str o.2]
structure Net where
  ins : List Str
  gates : List Gate
  regs : List Reg
  outs : List (Str × Str)
def Net.toD (n : Net) : D := .tuple [.tuple (strL n.ins), .tuple (n.gates.map Gate.toD), .tuple (n.regs.map Reg.toD), .tuple (n.outs.map outD)]
def Net.starts (n : Net) : List Str := n.ins ++ n.regs.map (·.name)
def Net.ends (n : Net) : List Str := n.regs.map (·.data) ++ n.outs.map (·.2)
/-- the gates in the order of their feeds -/
def Ranked (c : Nat) (starts : List Str) (gs : List Gate) : Prop := ∀ (a b : List Gate) (g : Gate), gs = a ++ g :: b → g.Ok (starts ++ a.map (·.name)) c
theorem Ranked.fed {c : Nat} {starts : List Str} {gs : List Gate} (h : Ranked c starts gs) : Fed starts gs := fun a b g e => (h a b g e).ins
theorem Ranked.snoc {c : Nat} {starts : List Str} {gs : List Gate} {g : Gate} (h : Ranked c starts gs) (hg : g.Ok (starts ++ gs.map (·.name)) c) : Ranked c starts (gs ++ [g]) := by
  intro a b x e
  rcases List.eq_nil_or_concat b with rfl | ⟨b', y, rfl⟩
  · obtain ⟨e1, e2⟩ := List.append_inj' e rfl
    cases e2
    exact e1 ▸ hg
  · have e' : gs ++ [g] = (a ++ x :: b') ++ [y] := by rw [e]; simp
    obtain ⟨e1, e2⟩ := List.append_inj' e' rfl
    exact h a b' x e1
structure Net.Ok (n : Net) (most : Nat) : Prop where
  nodup : (n.ins ++ n.regs.map (·.name) ++ n.outs.map (·.1) ++ n.gates.map (·.name)).Nodup
  names : ∀ x ∈ n.ins ++ n.regs.map (·.name) ++ n.outs.map (·.1) ++ n.gates.map (·.name), IsName x
  order : ∃ (c : Nat) (ord : List Gate), 1 ≤ c ∧ c ≤ 3 ∧ ord.Perm n.gates ∧ Ranked c n.starts ord ∧ (n.ends.map (cnt n.starts ord)).sum ≤ 60
  data : ∀ x ∈ n.ends, x ∈ n.starts ++ n.gates.map (·.name)
  some : 1 ≤ n.starts.length
  few : n.starts.length ≤ 6
  fewR : n.regs.length ≤ 4
  fewO : n.outs.length ≤ 4
  fewG : n.gates.length ≤ most
  regs : ∀ r ∈ n.regs, r.Ok
/-! ### slices -/
theorem cut_nat (xs : List D) (a b : Nat) (h1 : a ≤ b) (h2 : b ≤ xs.length) : slcD (.list xs) (some (a : Int)) (some (b : Int)) = some (.own (.lst ((xs.drop a).take (b - a)))) := by
  show some (RV.own (.lst (cutD xs (some (a : Int)) (some (b : Int))))) = _
  unfold cutD
  rw [HT.sIx_nat, HT.sIx_nat, Nat.min_eq_left h2, Nat.min_eq_left (Nat.le_trans h1 h2)]
theorem cut_to (xs : List D) (b : Nat) (h : b ≤ xs.length) : slcD (.list xs) none (some (b : Int)) = some (.own (.lst (xs.take b))) := by
  show some (RV.own (.lst (cutD xs none (some (b : Int))))) = _
  unfold cutD
  rw [HT.sIx_nat, HT.sIx_none, Nat.min_eq_left h, List.drop_zero, Nat.sub_zero]
theorem cut_from (xs : List D) (a : Nat) (h : a ≤ xs.length) : slcD (.list xs) (some (a : Int)) none = some (.own (.lst (xs.drop a))) := by
  show some (RV.own (.lst (cutD xs (some (a : Int)) none))) = _
  unfold cutD
  rw [HT.sIx_nat, HT.sIx_none, Nat.min_eq_left h, List.take_of_length_le (by rw [List.length_drop]; exact Nat.le_refl _)]
section
variable {O : Ora} {s : Ev} {P : RV → Ev → Prop} {E : Xn → Ev → Prop} {a b : GS.CE}
theorem e_rep (h : WG (ev O a s) (fun x s => ∃ xs, x = .own (.lst xs) ∧ WG (ev O b s) (fun y s => ∃ k : Nat, y.opd.get s = some (.int k) ∧ k < 1000000 ∧ xs.length * k ≤ sizeLine ∧ P (.own (.lst (repD xs k))) s) E) E) : WG (ev O (.rep a b) s) P E := by
  refine WG_bind.mpr (h.mono (fun x s h => ?_) fun _ _ z => z)
  obtain ⟨xs, rfl, h⟩ := h
  refine WG_bind.mpr (h.mono (fun y s h => ?_) fun _ _ z => z)
  obtain ⟨k, e, hk, hl, q⟩ := h
  rw [e]
  show WG (if (decide (-(2 ^ 63) ≤ (k : Int)) && decide ((k : Int) < 2 ^ 63) && decide (xs.length * (k : Int).toNat ≤ sizeLine)) = true then Rs.ok (RV.own (.lst (repD xs k))) s else .stuck) P E
  rw [if_pos (by rw [Bool.and_eq_true, Bool.and_eq_true, decide_eq_true_eq, decide_eq_true_eq, decide_eq_true_eq, Int.toNat_natCast]; exact ⟨⟨by omega, by omega⟩, hl⟩)]
  exact w_ok.mpr q
end
theorem rep_one (x : D) (n : Nat) : repD [x] (n : Int) = List.replicate n x := by
  unfold repD
  rw [Int.toNat_natCast]
  induction n with
  | zero => rfl
  | succ n ih => rw [List.replicate_succ, List.flatten_cons, ih]; rfl
theorem add_lists (xs ys : List D) (h : xs.length + ys.length ≤ sizeLine) : binD .Add (.list xs) (.list ys) = some (.own (.lst (xs ++ ys))) := if_pos h
theorem eq_nil' {xs : List D} (h : plainA xs = true) : cmpD .Eq (.list xs) (.list []) = some xs.isEmpty := by
  show eqD (.list xs) (.list []) = _
  unfold eqD
  rw [if_pos]
  · rw [eqv_nil]
  · rw [Bool.and_eq_true, Bool.and_eq_true, decide_eq_true_eq]
    refine ⟨⟨h, rfl⟩, Nat.le_trans (Nat.min_le_right _ _) ?_⟩
    show (PyData.list []).depth ≤ 64
    decide
theorem plain_pairs : ∀ ps : List (Int × Int), plainA (ps.map pairD) = true
  | [] => rfl
  | _ :: r => plain_pairs r
theorem Gate.plain (g : Gate) : plainD g.toD = true := by
  show (plainD (.str g.name) && (plainD (.str g.kind) && (plainA (strL g.pins) && (plainA (g.dl.map pairD) && true)))) = true
  rw [plain_strs, plain_pairs]
  rfl
theorem plain_gates : ∀ gs : List Gate, plainA (gs.map Gate.toD) = true
  | [] => rfl
  | g :: r => by
    show (plainD g.toD && plainA (r.map Gate.toD)) = true
    rw [g.plain, plain_gates r]
    rfl
def hdD : D → D
  | .tuple (x :: _) => x
  | x => x
theorem hd_gates (gs : List Gate) : (gs.map Gate.toD).map hdD = strL (gs.map (·.name)) := by
  unfold strL
  rw [List.map_map, List.map_map]
  rfl
theorem cnt_nil {starts : List Str} : ∀ {ds : List Str}, (∀ x ∈ ds, x ∈ starts) → (ds.map (cnt starts [])).sum = ds.length
  | [], _ => rfl
  | x :: r, h => by
    rw [List.map_cons, List.sum_cons, cnt_nil fun y hy => h y (List.mem_cons_of_mem _ hy), List.length_cons]
    have : cnt starts [] x = 1 := if_pos (h x List.mem_cons_self)
    rw [this]
    omega
/-! ### one turn of the gates -/
section
variable {p : Prog}
/-- the slots while gates are drawn -/
def St (d : Dr) (m i r o c : Nat) (ns st pl : List Str) (x8 x10 x11 x12 x13 x14 : Sl) : Ev :=
  [.io d.ob, .val (.int m), .val (.int i), .val (.int r), .val (.int o), .val (.int c), .own (.lst (strL ns)), .own (.lst (strL st)), x8, .own (.lst (strL pl)), x10, x11, x12, x13, x14, .emp, .emp, .emp, .emp, .emp]
theorem turn_gate (N : Has p) {k : Nat} {O : Ora} (hΦ : O.Φ = run p (k + 4)) {d : Dr} {b : Int} (h : d.Ok b) (hb : b + 100000 < 2 ^ 38) {m i r o c : Nat} {ns st pl : List Str} {gs : List Gate} {ds : List Str} {nm : Str} {x8 x10 x12 x13 x14 : Sl}
    (h8 : LSl x8 (gs.map Gate.toD)) (h10 : LSl x10 (strL ds)) (i12 : isIo (some x12) = false) (i13 : isIo (some x13) = false) (i14 : isIo (some x14) = false) (s1 : 1 ≤ st.length) (s6 : st.length ≤ 6) (lg : gs.length ≤ 100) (lo : r + o ≤ 8) (hc : c ≤ 3) (c1 : 1 ≤ c)
    (rk : Ranked c st gs) (ld : ds.length = r + o) (dd : ∀ x ∈ ds, x ∈ st ++ gs.map (·.name)) (few : (ds.map (cnt st gs)).sum ≤ 60)
    {Q : Fl → Ev → Prop} {E : Xn → Ev → Prop} (q : ∀ (gs' : List Gate) (ds' : List Str) (d' : Dr) (y8 y10 y12 y13 y14 : Sl), (gs' = gs ∨ ∃ g, gs' = gs ++ [g] ∧ g.name = nm) → LSl y8 (gs'.map Gate.toD) → LSl y10 (strL ds') → isIo (some y12) = false → isIo (some y13) = false → isIo (some y14) = false →
      Ranked c st gs' → ds'.length = r + o → (∀ x ∈ ds', x ∈ st ++ gs'.map (·.name)) → (ds'.map (cnt st gs')).sum ≤ 60 → d'.Ok (b + 40) → Q .nx (St d' m i r o c ns st pl y8 y10 (.val (.str nm)) y12 y13 y14)) :
    WG (exB O (.cons (.set 12 (.bin .Add (.var 7) q_law_netlist_0)) (.cons (.set 13 (.bin .Add (.var 8) (.lst (.cons (.call ("_law_gate" : Str) (.cons (.var 0) (.cons (.var 11) (.cons (.var 12) (.cons (.var 5) .nil)))) [.io 0, .pos 1, .pos 2, .pos 3]) .nil)))) (.cons (.ife (.cmp .Eq (.var 8) (.lst .nil)) (.cons (.set 10 q_law_netlist_1) .nil) .nil) (.cons (.set 14 q_law_netlist_2) (.cons (.ife (.cmp .LtE (.call ("_law_many" : Str) (.cons (.var 13) (.cons (.var 14) (.cons (.var 7) .nil))) [.pos 0, .pos 1, .pos 2]) (.con (.int (60)))) (.cons (.par 8 10 (.var 13) (.var 14)) .nil) .nil) .nil)))))
      (St d m i r o c ns st pl x8 x10 (.val (.str nm)) x12 x13 x14)) Q E := by
  have Dw : Draws O := draws (k := k + 2) N hΦ
  have lL : ∀ l : List Str, (strL l).length = l.length := fun l => List.length_map ..
  have lG : (gs.map Gate.toD).length = gs.length := List.length_map ..
  generalize ha : st ++ gs.map (·.name) = ahead at dd
  have la : ahead.length = st.length + gs.length := by rw [← ha, List.length_append, List.length_map]
  -- ahead
  have a1 : WG (ev O q_law_netlist_0 (St d m i r o c ns st pl x8 x10 (.val (.str nm)) x12 x13 x14)) (fun v s => v = .own (.lst (strL (gs.map (·.name)))) ∧ s = St d m i r o c ns st pl (.val (.list (gs.map Gate.toD))) x10 (.val (.str nm)) x12 x13 x14) E := by
    unfold q_law_netlist_0
    refine e_map <| i_lv rfl h8 ⟨.emp, hdD, rfl, rfl, by rw [lG, sl16]; omega, fun x hx => ?_, by rw [hd_gates], rfl⟩
    obtain ⟨g, _, rfl⟩ := List.mem_map.mp hx
    exact e_idx.mpr <| (e_val rfl).mpr <| e_con.mpr ⟨_, _, rfl, rfl, .str g.name, rfl, w_frzd ⟨rfl, rfl⟩⟩
  refine b_cons.mpr <| s_set.mpr <| e_bin.mpr <| (e_own rfl).mpr <| a1.mono (fun v s ⟨e1, e2⟩ => ?_) fun _ _ z => z
  subst e1 e2
  refine ⟨_, _, rfl, rfl, _, add_lists _ _ (by rw [lL, lL, List.length_map, sl16]; omega), put_o (x := x12) rfl i12 ?_⟩
  have ea : strL st ++ strL (gs.map (·.name)) = strL ahead := by rw [← ha]; exact (List.map_append ..).symm
  rw [ea]
  -- a gate
  refine b_cons.mpr <| s_set.mpr <| e_bin.mpr <| (e_val rfl).mpr <| e_lst.mpr <| e_cons.mpr <| e_call <| e_cons.mpr <| (e_io rfl).mpr <| e_cons.mpr <| (e_val rfl).mpr <| e_cons.mpr <| (e_own rfl).mpr <| e_cons.mpr <| (e_val rfl).mpr <| e_nil.mpr ⟨[.io d.ob, .d (.str nm), .d (.list (strL ahead)), .d (.int c)], rfl, ?_⟩
  rw [hΦ]
  refine r_gate N k d b h hb nm ahead (fun z => by rw [z, List.length_nil] at la; omega) (by omega) c (by omega) fun g d1 gn gok h1 => ⟨_, rfl, e_nil.mpr <| w_frzL (ds := [g.toD]) ⟨one_size, _, _, rfl, rfl, _, add_lists _ _ (by rw [lG, sl16]; show gs.length + 1 ≤ 16777216; omega), put_o (x := x13) rfl i13 ?_⟩⟩
  have gok' : g.Ok (st ++ gs.map (·.name)) c := ha ▸ gok
  have em : gs.map Gate.toD ++ [g.toD] = (gs ++ [g]).map Gate.toD := by rw [List.map_append]; rfl
  rw [em]
  -- the first data
  refine b_cons.mpr <| WG.mono (P := fun f s => f = .nx ∧ ∃ (ds' : List Str) (d2 : Dr) (y10 : Sl), s = St d2 m i r o c ns st pl (.val (.list (gs.map Gate.toD))) y10 (.val (.str nm)) (.val (.list (strL ahead))) (.own (.lst ((gs ++ [g]).map Gate.toD))) x14 ∧ LSl y10 (strL ds') ∧ ds'.length = r + o ∧ (∀ x ∈ ds', x ∈ ahead) ∧ (ds'.map (cnt st gs)).sum ≤ 60 ∧ d2.Ok (b + 30)) (E := E) ?_ (fun f s ⟨ef, ds', d2, y10, es, l10, ld', dd', few', h2⟩ => ?_) fun _ _ z => z
  · refine s_ife.mpr <| e_cmp.mpr <| (e_val rfl).mpr <| e_lst.mpr <| e_nil.mpr <| w_frzL (ds := []) ⟨Nat.zero_le _, _, _, rfl, rfl, _, eq_nil' (plain_gates gs), _, rfl, ?_⟩
    cases gs with
    | cons g0 r0 => exact b_nil.mpr ⟨rfl, ds, d1, x10, rfl, h10, ld, dd, few, h1.mono (by omega)⟩
    | nil =>
      show WG (exB O (.cons (.set 10 q_law_netlist_1) .nil) _) _ _
      unfold q_law_netlist_1
      refine b_cons.mpr <| s_set.mpr <| e_comp <| i_rng1 (n := r + o) (by omega) <| e_bin.mpr <| (e_val rfl).mpr <| (e_val rfl).mpr ⟨_, _, rfl, rfl, _, rfl, by rw [Int.natCast_add]; rfl, rfl, w_wipe1 (x := .emp) rfl rfl ?_⟩
      refine wp_comp (fun j acc s => ∃ (ys : List Str) (d2 : Dr), acc = strL ys ∧ s = St d2 m i r o c ns st pl (.val (.list [])) x10 (.val (.str nm)) (.val (.list (strL ahead))) (.own (.lst [g.toD])) x14 ∧ ys.length = j ∧ (∀ y ∈ ys, y ∈ ahead) ∧ d2.Ok (b + 21 + j)) (fun j x acc s hx ⟨ys, d2, eacc, es, l, w, h2⟩ => ?_) (fun acc s ⟨ys, d2, eacc, es, l, w, h2⟩ => ?_) ⟨[], d1, rfl, rfl, rfl, (fun _ z => nomatch z), h1.mono (by omega)⟩
      · subst eacc es
        have hj : j < r + o := by simpa using (List.getElem?_eq_some_iff.mp hx).1
        refine bind_nm (x := .emp) rfl rfl <| t_nil <| WG_bind.mpr <| e_idx.mpr <| (e_val rfl).mpr <| w_next Dw rfl h2 (by omega) (m := ((strL ahead).length : Int)) (by rw [lL]; omega) (by rw [lL]; omega) (e_len (.inr rfl) ⟨rfl, rfl⟩) fun v d3 v0 v1 h3 => ?_
        obtain ⟨rr, hr, e⟩ := idx_pick v0 v1
        obtain ⟨y, hy, rfl⟩ := List.mem_map.mp hr
        refine ⟨_, _, rfl, rfl, _, e, w_frzd ⟨by rw [lL, sl16]; omega, w_wipe1 (x := .val x) rfl rfl ⟨ys ++ [y], d3, strL_snoc.symm, rfl, by rw [List.length_append, l]; rfl, fun z hz => ?_, h3.mono (by omega)⟩⟩⟩
        rcases List.mem_append.mp hz with hz | hz
        · exact w z hz
        · rw [List.mem_singleton.mp hz]; exact hy
      · subst eacc es
        rw [List.length_map, List.length_range] at l h2
        refine put_o (x := x10) rfl h10.io <| b_nil.mpr ⟨rfl, ys, d2, _, rfl, .inl rfl, l, w, ?_, h2.mono (by omega)⟩
        rw [cnt_nil fun y hy => by
          have := w y hy
          rw [← ha, List.map_nil, List.append_nil] at this
          exact this, l]
        omega
  subst ef es
  -- fresh data
  have a3 : WG (ev O q_law_netlist_2 (St d2 m i r o c ns st pl (.val (.list (gs.map Gate.toD))) y10 (.val (.str nm)) (.val (.list (strL ahead))) (.own (.lst ((gs ++ [g]).map Gate.toD))) x14)) (fun v s => ∃ (ys : List Str) (d3 : Dr), v = .own (.lst (strL ys)) ∧ s = St d3 m i r o c ns st pl (.val (.list (gs.map Gate.toD))) (.val (.list (strL ds'))) (.val (.str nm)) (.val (.list (strL ahead))) (.own (.lst ((gs ++ [g]).map Gate.toD))) x14 ∧ ys.length = r + o ∧ (∀ y ∈ ys, y ∈ ahead ∨ y = nm) ∧ d3.Ok (b + 40)) E := by
    unfold q_law_netlist_2
    refine e_comp <| i_lv rfl l10 ⟨rfl, w_wipe1 (x := .emp) rfl rfl ?_⟩
    refine wp_comp (fun j acc s => ∃ (ys : List Str) (d3 : Dr), acc = strL ys ∧ s = St d3 m i r o c ns st pl (.val (.list (gs.map Gate.toD))) (.val (.list (strL ds'))) (.val (.str nm)) (.val (.list (strL ahead))) (.own (.lst ((gs ++ [g]).map Gate.toD))) x14 ∧ ys.length = j ∧ (∀ y ∈ ys, y ∈ ahead ∨ y = nm) ∧ d3.Ok (b + 30 + j)) (fun j x acc s hx ⟨ys, d3, eacc, es, l, w, h3⟩ => ?_) (fun acc s ⟨ys, d3, eacc, es, l, w, h3⟩ => ?_) ⟨[], d2, rfl, rfl, rfl, (fun _ z => nomatch z), h2.mono (by omega)⟩
    · subst eacc es
      have hj : j < r + o := by
        have := (List.getElem?_eq_some_iff.mp hx).1
        rw [lL] at this
        omega
      obtain ⟨x, hx', rfl⟩ := List.mem_map.mp (List.mem_of_getElem? hx)
      have fin : ∀ (y : Str) (d4 : Dr), (y ∈ ahead ∨ y = nm) → d4.Ok (b + 30 + j + 1) → (strL ys).length < sizeLine ∧ WG (wipeC [19] ((St d4 m i r o c ns st pl (.val (.list (gs.map Gate.toD))) (.val (.list (strL ds'))) (.val (.str nm)) (.val (.list (strL ahead))) (.own (.lst ((gs ++ [g]).map Gate.toD))) x14).set 19 (.val (.str x)))) (fun _ s => ∃ (zs : List Str) (d3 : Dr), strL ys ++ [.str y] = strL zs ∧ s = St d3 m i r o c ns st pl (.val (.list (gs.map Gate.toD))) (.val (.list (strL ds'))) (.val (.str nm)) (.val (.list (strL ahead))) (.own (.lst ((gs ++ [g]).map Gate.toD))) x14 ∧ zs.length = j + 1 ∧ (∀ y ∈ zs, y ∈ ahead ∨ y = nm) ∧ d3.Ok (b + 30 + ((j + 1 : Nat) : Int))) (fun _ _ => False) := by
        intro y d4 hy h4
        refine ⟨by rw [lL, sl16]; omega, w_wipe1 (x := .val (.str x)) rfl rfl ⟨ys ++ [y], d4, strL_snoc.symm, rfl, by rw [List.length_append, l]; rfl, fun z hz => ?_, h4.mono (by omega)⟩⟩
        rcases List.mem_append.mp hz with hz | hz
        · exact w z hz
        · rw [List.mem_singleton.mp hz]; exact hy
      refine bind_nm (x := .emp) rfl rfl <| t_nil <| WG_bind.mpr <| e_ite.mpr <| e_cmp.mpr <| w_nextc Dw rfl h3 (by omega) (by decide) (by decide) fun v d4 v0 v1 h4 => e_con.mpr ⟨_, _, rfl, rfl, _, eq_int _ _, _, rfl, ?_⟩
      by_cases z : v = 0
      · rw [decide_eq_true z]
        exact (e_val rfl).mpr <| w_frzd <| fin nm d4 (.inr rfl) h4
      · rw [decide_eq_false z]
        exact (e_val rfl).mpr <| w_frzd <| fin x d4 (.inl (dd' x hx')) h4
    · subst eacc es
      rw [lL] at l h3
      exact ⟨ys, d3, rfl, rfl, by omega, w, h3.mono (by omega)⟩
  refine b_cons.mpr <| s_set.mpr <| a3.mono (fun v s ⟨fr, d3, ev3, es3, lf, wf, h3⟩ => ?_) fun _ _ z => z
  subst ev3 es3
  refine put_o (x := x14) rfl i14 ?_
  -- few enough?
  have rk' := rk.snoc gok'
  have inF : ∀ x ∈ fr, x ∈ st ++ (gs ++ [g]).map (·.name) := fun x hx => by
    rw [List.map_append, ← List.append_assoc, ha]
    rcases wf x hx with z | z
    · exact List.mem_append_left _ z
    · exact List.mem_append_right _ (List.mem_singleton.mpr (z.trans gn.symm))
  refine b_cons.mpr <| s_ife.mpr <| e_cmp.mpr <| e_call <| e_cons.mpr <| (e_own rfl).mpr <| e_cons.mpr <| (e_own rfl).mpr <| e_cons.mpr <| (e_own rfl).mpr <| e_nil.mpr ⟨[.d (.list ((gs ++ [g]).map Gate.toD)), .d (.list (strL fr)), .d (.list (strL st))], rfl, ?_⟩
  rw [hΦ]
  refine r_many N (k + 3) (gs ++ [g]) fr st (by rw [List.length_append]; show gs.length + 1 ≤ 900; omega) (by omega) (by omega) (fun x hx => ?_) rk'.fed inF ⟨_, rfl, e_con.mpr ⟨_, _, rfl, rfl, _, rfl, _, rfl, ?_⟩⟩
  · obtain ⟨a, b', e⟩ := List.append_of_mem hx
    exact Nat.le_trans (rk' a b' x e).few (by decide)
  · by_cases le : (fr.map (cnt st (gs ++ [g]))).sum ≤ 60
    · rw [decide_eq_true le]
      refine b_cons.mpr <| s_par.mpr <| (e_own rfl).mpr <| w_stls rfl <| (e_own rfl).mpr <| w_stls rfl <| put_v (x := .val (.list (gs.map Gate.toD))) rfl rfl <| put_v (x := .val (.list (strL ds'))) rfl rfl <| b_nil.mpr <| b_nil.mpr ?_
      exact q (gs ++ [g]) fr d3 _ _ _ _ _ (.inr ⟨g, rfl, gn⟩) (.inr rfl) (.inr rfl) rfl rfl rfl rk' lf inF le h3
    · rw [decide_eq_false le]
      refine b_nil.mpr <| b_nil.mpr ?_
      exact q gs ds' d3 _ _ _ _ _ (.inl rfl) (.inr rfl) (.inr rfl) rfl rfl rfl rk ld' (fun x hx => ha ▸ dd' x hx) few' h3
end
end ND

/-! ND10: a netlist drawn. -/
namespace ND
open PySem GS
theorem perm_map_inv {α β : Type} {f : α → β} {ys l : List β} (h : ys.Perm l) : ∀ xs : List α, l = xs.map f → ∃ zs : List α, zs.Perm xs ∧ ys = zs.map f := by
  induction h with
  | nil =>
    intro xs e
    cases xs with
    | nil => exact ⟨[], .refl _, rfl⟩
    | cons _ _ => cases e
  | cons x _ ih =>
    intro xs e
    cases xs with
    | nil => cases e
    | cons a xs =>
      rw [List.map_cons] at e
      injection e with e1 e2
      obtain ⟨zs, p, rfl⟩ := ih xs e2
      exact ⟨a :: zs, p.cons a, by rw [e1]; rfl⟩
  | swap x y l =>
    intro xs e
    cases xs with
    | nil => cases e
    | cons a xs =>
      rw [List.map_cons] at e
      injection e with e1 e2
      cases xs with
      | nil => cases e2
      | cons b xs =>
        rw [List.map_cons] at e2
        injection e2 with e3 e4
        exact ⟨b :: a :: xs, .swap a b xs, by rw [e1, e3, e4]; rfl⟩
  | trans _ _ ih1 ih2 =>
    intro xs e
    obtain ⟨zs, p, e2⟩ := ih2 xs e
    obtain ⟨ws, p2, e3⟩ := ih1 zs e2
    exact ⟨ws, p2.trans p, e3⟩
theorem idx_strs {xs : List Str} {k : Nat} (h : k < xs.length) : idxD (.list (strL xs)) (.int (k : Int)) = some (.str (xs.getD k "")) := by
  show L2.atI (strL xs) (k : Int) = _
  refine L2.atI_nat ?_
  rw [strL, List.getElem?_map, List.getElem?_eq_getElem h, List.getD_eq_getElem?_getD, List.getElem?_eq_getElem h]
  rfl
theorem range_getD (xs : List Str) (a n : Nat) (h : a + n ≤ xs.length) : (List.range n).map (fun k => xs.getD (a + k) "") = (xs.drop a).take n := by
  apply List.ext_getElem?
  intro j
  by_cases hj : j < n
  · rw [List.getElem?_map, List.getElem?_range hj, List.getElem?_take_of_lt hj, List.getElem?_drop]
    show some (xs.getD (a + j) "") = _
    rw [List.getD_eq_getElem?_getD, List.getElem?_eq_getElem (by omega)]
    rfl
  · rw [List.getElem?_eq_none (by rw [List.length_map, List.length_range]; omega), List.getElem?_eq_none (by rw [List.length_take]; omega)]
section
variable {p : Prog}
/-- the slots behind the gates -/
def St' (d : Dr) (m i r o c : Nat) (ns st pl : List Str) (x8 x10 x11 x12 x13 x14 x15 x16 : Sl) : Ev :=
  [.io d.ob, .val (.int m), .val (.int i), .val (.int r), .val (.int o), .val (.int c), .own (.lst (strL ns)), .own (.lst (strL st)), x8, .own (.lst (strL pl)), x10, x11, x12, x13, x14, x15, x16, .emp, .emp, .emp]
/-- the end: registers, outputs, all in a drawn order -/
theorem netlist_end (N : Has p) {k : Nat} {O : Ora} (hΦ : O.Φ = run p (k + 4)) {d : Dr} {b : Int} (h : d.Ok b) (hb : b + 100000 < 2 ^ 38) {m i r o c : Nat} {ns st pl : List Str} {gs : List Gate} {ds : List Str} {x8 x10 x11 x12 x13 x14 : Sl}
    (h8 : LSl x8 (gs.map Gate.toD)) (h10 : LSl x10 (strL ds)) (ls : st.length = i + r) (lp : pl.length = o) (ld : ds.length = r + o) (lg : gs.length ≤ 100) (hi : i + r ≤ 6) (ho : o ≤ 4)
    {P : RV → Option Ob → Prop} {E : Xn → Ev → Prop} (q : ∀ (n : Net) (d' : Dr), n.ins = st.take i → n.regs.map (·.name) = st.drop i → n.regs.map (·.data) = ds.take r → n.outs.map (·.1) = pl → n.outs.map (·.2) = ds.drop r → n.gates.Perm gs → (∀ r ∈ n.regs, r.Ok) → d'.Ok (b + 200) → P (.d n.toD) (some d'.ob)) :
    WG (exB O (.cons (.set 15 q_law_netlist_4) (.cons (.set 16 q_law_netlist_5) (.cons (.ret (.tup (.cons (.bi "tuple" (.cons (.slc (.var 7) .nil (.cons (.var 2) .nil)) .nil)) (.cons (.bi "tuple" (.cons (.call ("_law_picked" : Str) (.cons (.var 0) (.cons (.var 8) (.cons (.bi "len" (.cons (.var 8) .nil)) .nil))) [.io 0, .pos 1, .pos 2]) .nil)) (.cons (.bi "tuple" (.cons (.var 15) .nil)) (.cons (.bi "tuple" (.cons (.var 16) .nil)) .nil)))))) .nil)))
      (St' d m i r o c ns st pl x8 x10 x11 x12 x13 x14 .emp .emp)) (fun fl s => match fl with | .ret v => P v (outOf s (some 0)) | .nx => P (.d .none) (outOf s (some 0)) | _ => False) E := by
  have Dw : Draws O := draws (k := k + 2) N hΦ
  have lL : ∀ l : List Str, (strL l).length = l.length := fun l => List.length_map ..
  have lG : (gs.map Gate.toD).length = gs.length := List.length_map ..
  -- registers
  have a1 : WG (ev O q_law_netlist_4 (St' d m i r o c ns st pl x8 x10 x11 x12 x13 x14 .emp .emp)) (fun v s => ∃ (rs : List Reg) (d1 : Dr), v = .own (.lst (rs.map Reg.toD)) ∧ s = St' d1 m i r o c ns st pl x8 x10 x11 x12 x13 x14 .emp .emp ∧ rs.map (·.name) = st.drop i ∧ rs.map (·.data) = ds.take r ∧ (∀ r ∈ rs, r.Ok) ∧ d1.Ok (b + 80)) E := by
    unfold q_law_netlist_4
    refine e_comp <| i_rng1 (n := r) (by omega) <| (e_val rfl).mpr ⟨rfl, rfl, w_wipe1 (x := .emp) rfl rfl ?_⟩
    refine wp_comp (fun j acc s => ∃ (rs : List Reg) (d1 : Dr), acc = rs.map Reg.toD ∧ s = St' d1 m i r o c ns st pl x8 x10 x11 x12 x13 x14 .emp .emp ∧ rs.map (·.name) = (List.range j).map (fun k => st.getD (i + k) "") ∧ rs.map (·.data) = (List.range j).map (fun k => ds.getD (0 + k) "") ∧ (∀ r ∈ rs, r.Ok) ∧ d1.Ok (b + 11 * j)) (fun j x acc s hx ⟨rs, d1, eacc, es, l1, l2, w, h1⟩ => ?_) (fun acc s ⟨rs, d1, eacc, es, l1, l2, w, h1⟩ => ?_) ⟨[], d, rfl, rfl, rfl, rfl, (fun _ z => nomatch z), by simpa using h⟩
    · subst eacc es
      have hj : j < r := by simpa using (List.getElem?_eq_some_iff.mp hx).1
      have ex : x = .int (j : Int) := by
        rw [List.getElem?_map, List.getElem?_range hj] at hx
        cases hx
        rfl
      subst ex
      have lr : rs.length = j := by
        have := congrArg List.length l1
        rw [List.length_map, List.length_map, List.length_range] at this
        exact this
      have s1 : binD .Add (.int (i : Int)) (.int (j : Int)) = some (.d (.int ((i + j : Nat) : Int))) := by rw [Int.natCast_add]; rfl
      refine bind_nm (x := .emp) rfl rfl <| t_nil <| WG_bind.mpr <| e_call <| e_cons.mpr <| (e_io rfl).mpr <| e_cons.mpr <| e_idx.mpr <| (e_own rfl).mpr <| e_bin.mpr <| (e_val rfl).mpr <| (e_val rfl).mpr ⟨_, _, rfl, rfl, _, s1, _, _, rfl, rfl, _, idx_strs (show i + j < st.length by omega), e_cons.mpr <| e_idx.mpr <| e_lv rfl h10 fun rv hrv => (e_val rfl).mpr ⟨_, _, hrv, rfl, _, idx_strs (show j < ds.length by omega), e_nil.mpr ⟨[.io d1.ob, .d (.str (st.getD (i + j) "")), .d (.str (ds.getD j ""))], rfl, ?_⟩⟩⟩
      rw [hΦ]
      refine r_register N (k + 1) d1 (b + 11 * j) h1 (by omega) _ _ fun su ho' lo hi' d2 b1 b2 b3 b4 h2 => ⟨_, rfl, w_frzd ⟨by rw [List.length_map, lr, sl16]; omega, w_wipe1 (x := .val (.int (j : Int))) rfl rfl ⟨rs ++ [⟨st.getD (i + j) "", ds.getD j "", su, ho', lo, hi'⟩], d2, by rw [List.map_append]; rfl, rfl, ?_, ?_, fun z hz => ?_, h2.mono (by omega)⟩⟩⟩
      · rw [List.map_append, l1, List.range_succ, List.map_append]; rfl
      · rw [List.map_append, l2, List.range_succ, List.map_append]
        show _ = _ ++ [ds.getD (0 + j) ""]
        rw [Nat.zero_add]; rfl
      · rcases List.mem_append.mp hz with hz | hz
        · exact w z hz
        · rw [List.mem_singleton.mp hz]; exact ⟨b1, b2, b3, b4⟩
    · subst eacc es
      rw [List.length_map, List.length_range] at l1 l2 h1
      rw [range_getD st i r (by omega), List.take_of_length_le (by rw [List.length_drop]; omega)] at l1
      rw [range_getD ds 0 r (by omega), List.drop_zero] at l2
      exact ⟨rs, d1, rfl, rfl, l1, l2, w, h1.mono (by omega)⟩
  refine b_cons.mpr <| s_set.mpr <| a1.mono (fun v s ⟨rs, d1, ev1, es1, l1, l2, w, h1⟩ => ?_) fun _ _ z => z
  subst ev1 es1
  refine put_o (x := .emp) rfl rfl ?_
  -- outputs
  have a2 : WG (ev O q_law_netlist_5 (St' d1 m i r o c ns st pl x8 x10 x11 x12 x13 x14 (.own (.lst (rs.map Reg.toD))) .emp)) (fun v s => v = .own (.lst (((List.range o).map fun k => (pl.getD (0 + k) "", ds.getD (r + k) "")).map outD)) ∧ s = St' d1 m i r o c ns st pl x8 x10 x11 x12 x13 x14 (.own (.lst (rs.map Reg.toD))) .emp) E := by
    unfold q_law_netlist_5
    refine e_map <| i_rng1 (n := o) (by omega) <| (e_val rfl).mpr ⟨rfl, .emp, fun x => match x with | .int k => outD (pl.getD (0 + k.toNat) "", ds.getD (r + k.toNat) "") | x => x, rfl, rfl, by rw [List.length_map, List.length_range, sl16]; omega, fun x hx => ?_, ?_, rfl⟩
    · obtain ⟨j, hj, rfl⟩ := List.mem_map.mp hx
      have hj := List.mem_range.mp hj
      have s1 : binD .Add (.int (r : Int)) (.int (j : Int)) = some (.d (.int ((r + j : Nat) : Int))) := by rw [Int.natCast_add]; rfl
      refine e_tup.mpr <| e_cons.mpr <| e_idx.mpr <| (e_own rfl).mpr <| (e_val rfl).mpr ⟨_, _, rfl, rfl, _, idx_strs (show j < pl.length by omega), e_cons.mpr <| e_idx.mpr <| e_lv rfl h10 fun rv hrv => e_bin.mpr <| (e_val rfl).mpr <| (e_val rfl).mpr ⟨_, _, rfl, rfl, _, s1, _, _, hrv, rfl, _, idx_strs (show r + j < ds.length by omega), e_nil.mpr <| w_frzL (ds := [.str (pl.getD j ""), .str (ds.getD (r + j) "")]) ⟨two_le, w_frzd ⟨?_, rfl⟩⟩⟩⟩
      show _ = outD (pl.getD (0 + (j : Int).toNat) "", ds.getD (r + (j : Int).toNat) "")
      rw [Int.toNat_natCast, Nat.zero_add]
      rfl
    · rw [List.map_map, List.map_map]
      rfl
  refine b_cons.mpr <| s_set.mpr <| a2.mono (fun v s ⟨ev2, es2⟩ => ?_) fun _ _ z => z
  subst ev2 es2
  refine put_o (x := .emp) rfl rfl ?_
  generalize hos : ((List.range o).map fun k => (pl.getD (0 + k) "", ds.getD (r + k) "")) = os
  have o1 : os.map (·.1) = pl := by
    rw [← hos, List.map_map]
    have e := range_getD pl 0 o (by omega)
    rw [List.drop_zero, List.take_of_length_le (by omega)] at e
    exact e
  have o2 : os.map (·.2) = ds.drop r := by
    rw [← hos, List.map_map]
    have e := range_getD ds r o (by omega)
    rw [List.take_of_length_le (by rw [List.length_drop]; omega)] at e
    exact e
  -- all
  have fin : ∀ (K : Fl → Ev → Prop) (_ : ∀ v s, P v (outOf s (some 0)) → K (.ret v) s) (y8 : Sl) (ys rest : List D) (d2 : Dr), (ys ++ rest).Perm (gs.map Gate.toD) → ys.length = min (gs.map Gate.toD).length gs.length → d2.Ok (b + 80 + gs.length) → WG (evs O (.cons (.bi "tuple" (.cons (.var 15) .nil)) (.cons (.bi "tuple" (.cons (.var 16) .nil)) .nil)) (St' d2 m i r o c ns st pl y8 x10 x11 x12 x13 x14 (.own (.lst (rs.map Reg.toD))) (.own (.lst (os.map outD)))))
      (fun vs s => WG (frzL (RV.d (.tuple (strL (st.take i))) :: RV.d (.tuple ys) :: vs) s) (fun ds s => ds.length ≤ sizeLine ∧ WG (retV (.d (.tuple ds)) s) K E) E) E := by
    intro K hK y8 ys rest d2 pm ly h2
    have lr : rest = [] := by
      have e := pm.length_eq
      rw [List.length_append, ly, lG, Nat.min_self] at e
      exact List.length_eq_zero_iff.mp (by omega)
    rw [lr, List.append_nil] at pm
    obtain ⟨gs', pg, rfl⟩ := perm_map_inv pm gs rfl
    refine e_cons.mpr <| e_bi.mpr <| e_cons.mpr <| (e_own rfl).mpr <| e_nil.mpr ⟨.d (.tuple (rs.map Reg.toD)), rfl, e_cons.mpr <| e_bi.mpr <| e_cons.mpr <| (e_own rfl).mpr <| e_nil.mpr ⟨.d (.tuple (os.map outD)), rfl, e_nil.mpr <| w_frzL (ds := [.tuple (strL (st.take i)), .tuple (gs'.map Gate.toD), .tuple (rs.map Reg.toD), .tuple (os.map outD)]) ⟨by rw [sl16]; show 4 ≤ 16777216; decide, w_retd (hK _ _ ?_)⟩⟩⟩
    exact q ⟨st.take i, gs', rs, os⟩ d2 rfl l1 l2 o1 o2 pg w (h2.mono (by omega))
  refine b_cons.mpr <| s_ret.mpr <| e_tup.mpr <| e_cons.mpr <| e_bi.mpr <| e_cons.mpr <| e_slc <| (e_own rfl).mpr <| e_nil.mpr ⟨none, rfl, e_cons.mpr <| (e_val rfl).mpr <| e_nil.mpr ⟨_, _, _, rfl, rfl, cut_to (strL st) i (by rw [lL]; omega), e_nil.mpr ⟨.d (.tuple (strL (st.take i))), ?_, ?_⟩⟩⟩
  · show biD "tuple" [.list ((strL st).take i)] = _
    rw [strL, ← List.map_take]
    rfl
  refine e_cons.mpr <| e_bi.mpr <| e_cons.mpr <| e_call <| e_cons.mpr <| (e_io rfl).mpr <| e_cons.mpr ?_
  have pk := fun (Q : RV → Option Ob → Prop) (E : Xn → Option Ob → Prop) (z : ∀ (ys rest : List D) (d' : Dr), (ys ++ rest).Perm (gs.map Gate.toD) → ys.length = min (gs.map Gate.toD).length gs.length → d'.Ok (b + 80 + gs.length) → Q (.own (.lst ys)) (some d'.ob)) => r_picked N (k + 1) d1 (b + 80) h1 (by omega) (.list (gs.map Gate.toD)) (gs.map Gate.toD) rfl (plain_gates gs) (by omega) gs.length (by omega) (P := Q) (E := E) z
  rcases h8 with rfl | rfl
  · refine (e_own rfl).mpr <| e_cons.mpr <| e_len (.inl rfl) <| e_nil.mpr ⟨[.io d1.ob, .d (.list (gs.map Gate.toD)), .d (.int (gs.map Gate.toD).length)], rfl, ?_⟩
    rw [hΦ, lG]
    exact pk _ _ fun ys rest d2 pm ly h2 => ⟨_, rfl, e_nil.mpr ⟨.d (.tuple ys), rfl, fin _ (fun v s z => z) _ ys rest d2 pm ly h2⟩⟩
  · refine (e_val rfl).mpr <| e_cons.mpr <| e_len (.inr rfl) <| e_nil.mpr ⟨[.io d1.ob, .d (.list (gs.map Gate.toD)), .d (.int (gs.map Gate.toD).length)], rfl, ?_⟩
    rw [hΦ, lG]
    exact pk _ _ fun ys rest d2 pm ly h2 => ⟨_, rfl, e_nil.mpr ⟨.d (.tuple ys), rfl, fin _ (fun v s z => z) _ ys rest d2 pm ly h2⟩⟩
end
end ND

/-! ND11: a netlist drawn, whole. -/
namespace ND
open PySem GS
section
variable {p : Prog}
theorem r_netlist (N : Has p) (k : Nat) (d : Dr) (b : Int) (h : d.Ok b) (hb : b + 1000000 < 2 ^ 38) (m : Nat) (hm : m ≤ 30)
    {P : RV → Option Ob → Prop} {E : Xn → Option Ob → Prop} (q : ∀ (n : Net) (d' : Dr), n.Ok m → d'.Ok (b + 20000) → P (.d n.toD) (some d'.ob)) :
    wpR (run p (k + 5) "_law_netlist" [.io d.ob, .d (.int m)]) P E := by
  refine wp_run N.f_law_netlist rfl fun O hΦ hG hΛ => ?_
  have Dw : Draws O := draws (k := k + 2) N hΦ
  have lL : ∀ l : List Str, (strL l).length = l.length := fun l => List.length_map ..
  show WG (exB O k_law_netlist [.io d.ob, .val (.int m), .emp, .emp, .emp, .emp, .emp, .emp, .emp, .emp, .emp, .emp, .emp, .emp, .emp, .emp, .emp, .emp, .emp, .emp]) _ _
  unfold k_law_netlist
  refine b_cons.mpr <| s_par.mpr <| w_nextc Dw rfl h (by omega) (by decide) (by decide) fun i0 d1 i00 i05 h1 => w_stld <| w_nextc Dw rfl h1 (by omega) (by decide) (by decide) fun r d2 r0 r4 h2 => w_stld <| put_v (x := .emp) rfl rfl <| put_v (x := .emp) rfl rfl ?_
  obtain ⟨i0, rfl⟩ := Int.eq_ofNat_of_zero_le i00
  obtain ⟨r, rfl⟩ := Int.eq_ofNat_of_zero_le r0
  -- how many inputs
  refine b_cons.mpr <| s_set.mpr <| WG.mono (P := fun v s => ∃ i : Nat, v = .d (.int i) ∧ s = [.io d2.ob, .val (.int m), .val (.int i0), .val (.int r), .emp, .emp, .emp, .emp, .emp, .emp, .emp, .emp, .emp, .emp, .emp, .emp, .emp, .emp, .emp, .emp] ∧ 1 ≤ i + r ∧ i + r ≤ 6) ?_ (fun v s ⟨i, ev, es, g1, g6⟩ => ?_) (fun _ _ z => z)
  · refine e_ite.mpr <| e_cmp.mpr <| e_bin.mpr <| (e_val rfl).mpr <| (e_val rfl).mpr ⟨_, _, rfl, rfl, _, rfl, e_con.mpr ⟨_, _, rfl, rfl, _, rfl, _, rfl, ?_⟩⟩
    by_cases c : (0 : Int) < (i0 : Int) + (r : Int)
    · rw [decide_eq_true c]
      refine e_bi.mpr <| e_cons.mpr <| (e_val rfl).mpr <| e_cons.mpr <| e_bin.mpr <| e_con.mpr <| (e_val rfl).mpr ⟨_, _, rfl, rfl, _, rfl, e_nil.mpr ⟨.d (.int (if (6 - (r : Int)) < (i0 : Int) then 6 - (r : Int) else i0)), rfl, ?_⟩⟩
      by_cases c2 : 6 - (r : Int) < (i0 : Int)
      · rw [if_pos c2]
        exact ⟨6 - r, by rw [show 6 - (r : Int) = ((6 - r : Nat) : Int) by omega], rfl, by omega, by omega⟩
      · rw [if_neg c2]
        exact ⟨i0, rfl, rfl, by omega, by omega⟩
    · rw [decide_eq_false c]
      exact e_con.mpr ⟨1, rfl, rfl, by omega, by omega⟩
  subst ev es
  refine put_v (x := .val (.int i0)) rfl rfl ?_
  refine b_cons.mpr <| s_par.mpr <| w_nextc Dw rfl h2 (by omega) (by decide) (by decide) fun o d3 o0 o4 h3 => w_stld <| e_bin.mpr <| e_con.mpr <| w_nextc Dw rfl h3 (by omega) (by decide) (by decide) fun cv d4 c0 c2 h4 => ⟨_, _, rfl, rfl, _, rfl, w_stld <| put_v (x := .emp) rfl rfl <| put_v (x := .emp) rfl rfl ?_⟩
  obtain ⟨o, rfl⟩ := Int.eq_ofNat_of_zero_le o0
  obtain ⟨c, hc⟩ := Int.eq_ofNat_of_zero_le (show 0 ≤ 1 + cv by omega)
  rw [hc]
  -- names
  have e1 : (i : Int) + (r : Int) + (o : Int) + (m : Int) = ((i + r + o + m : Nat) : Int) := by omega
  refine b_cons.mpr <| s_set.mpr <| e_call2 (d := .int ((i + r + o + m : Nat) : Int)) rfl (e_bin.mpr <| e_bin.mpr <| e_bin.mpr <| (e_val rfl).mpr <| (e_val rfl).mpr ⟨_, _, rfl, rfl, _, rfl, (e_val rfl).mpr ⟨_, _, rfl, rfl, _, rfl, (e_val rfl).mpr ⟨_, _, rfl, rfl, _, rfl, by rw [e1], rfl⟩⟩⟩) ?_
  rw [hΦ]
  refine r_names N (k + 1) d4 (b + 4) (h4.mono (by omega)) (by omega) (i + r + o + m) (by omega) fun ns d5 ln nd isN h5 => ⟨_, rfl, put_o (x := .emp) rfl rfl ?_⟩
  generalize hst : ns.take (i + r) = st
  generalize hpl : (ns.drop (i + r)).take o = pl
  generalize htl : ns.drop (i + r + o) = tl
  have nsE : ns = st ++ pl ++ tl := by
    rw [← hst, ← hpl, ← htl, show ns.drop (i + r + o) = (ns.drop (i + r)).drop o by rw [List.drop_drop], List.append_assoc, List.take_append_drop, List.take_append_drop]
  have lst : st.length = i + r := by rw [← hst, List.length_take]; omega
  have lpl : pl.length = o := by rw [← hpl, List.length_take, List.length_drop]; omega
  have ltl : tl.length = m := by rw [← htl, List.length_drop]; omega
  have c1 : slcD (.list (strL ns)) none (some ((i : Int) + (r : Int))) = some (.own (.lst (strL st))) := by
    rw [← Int.natCast_add, cut_to _ _ (by rw [lL]; omega), ← hst, strL, strL, List.map_take]
  have c2 : slcD (.list (strL ns)) (some ((i : Int) + (r : Int))) (some ((i : Int) + (r : Int) + (o : Int))) = some (.own (.lst (strL pl))) := by
    rw [← Int.natCast_add, ← Int.natCast_add, cut_nat _ _ _ (by omega) (by rw [lL]; omega), ← hpl, strL, strL, List.map_take, List.map_drop, Nat.add_sub_cancel_left]
  have c3 : slcD (.list (strL ns)) (some ((i : Int) + (r : Int) + (o : Int))) none = some (.own (.lst (strL tl))) := by
    rw [← Int.natCast_add, ← Int.natCast_add, cut_from _ _ (by rw [lL]; omega), ← htl, strL, strL, List.map_drop]
  refine b_cons.mpr <| s_par.mpr <| e_slc <| (e_own rfl).mpr <| e_nil.mpr ⟨none, rfl, e_cons.mpr <| e_bin.mpr <| (e_val rfl).mpr <| (e_val rfl).mpr ⟨_, _, rfl, rfl, _, rfl, e_nil.mpr ⟨_, _, _, rfl, rfl, c1, w_stlo <| e_lst.mpr <| e_nil.mpr <| w_frzL (ds := []) ⟨Nat.zero_le _, w_stlo <| put_o (x := .emp) rfl rfl <| put_o (x := .emp) rfl rfl ?_⟩⟩⟩⟩
  refine b_cons.mpr <| s_set.mpr <| e_slc <| (e_own rfl).mpr <| e_cons.mpr <| e_bin.mpr <| (e_val rfl).mpr <| (e_val rfl).mpr ⟨_, _, rfl, rfl, _, rfl, e_nil.mpr ⟨_, rfl, e_cons.mpr <| e_bin.mpr <| e_bin.mpr <| (e_val rfl).mpr <| (e_val rfl).mpr ⟨_, _, rfl, rfl, _, rfl, (e_val rfl).mpr ⟨_, _, rfl, rfl, _, rfl, e_nil.mpr ⟨_, _, _, rfl, rfl, c2, put_o (x := .emp) rfl rfl ?_⟩⟩⟩⟩⟩
  obtain ⟨s0, st', hs0⟩ : ∃ s0 st', st = s0 :: st' := by
    cases st with
    | nil => rw [List.length_nil] at lst; omega
    | cons a l => exact ⟨a, l, rfl⟩
  have c4 : slcD (.list (strL st)) none (some 1) = some (.own (.lst [.str s0])) := by
    have := cut_to (strL st) 1 (by rw [lL]; omega)
    rw [hs0] at this ⊢
    exact this
  refine b_cons.mpr <| s_set.mpr <| e_rep <| e_slc <| (e_own rfl).mpr <| e_nil.mpr ⟨none, rfl, e_cons.mpr <| e_con.mpr <| e_nil.mpr ⟨_, _, _, rfl, rfl, c4, _, rfl, e_bin.mpr <| (e_val rfl).mpr <| (e_val rfl).mpr ⟨_, _, rfl, rfl, _, rfl, r + o, by rw [Int.natCast_add]; rfl, by omega, by rw [sl16]; show 1 * (r + o) ≤ 16777216; omega, put_o (x := .emp) rfl rfl ?_⟩⟩⟩
  have c5 : repD [.str s0] ((r + o : Nat) : Int) = strL (List.replicate (r + o) s0) := by
    rw [rep_one, strL, List.map_replicate]
  rw [c5]
  -- the gates
  unfold q_law_netlist_3
  refine b_cons.mpr <| s_for <| i_v <| e_slc <| (e_own rfl).mpr <| e_cons.mpr <| e_bin.mpr <| e_bin.mpr <| (e_val rfl).mpr <| (e_val rfl).mpr ⟨_, _, rfl, rfl, _, rfl, (e_val rfl).mpr ⟨_, _, rfl, rfl, _, rfl, e_nil.mpr ⟨_, rfl, e_nil.mpr ⟨_, none, _, rfl, rfl, c3, w_frzo ⟨strL tl, rfl, ?_⟩⟩⟩⟩⟩
  refine ⟨fun t s => ∃ (gs : List Gate) (ds : List Str) (d' : Dr) (x8 x10 x11 x12 x13 x14 : Sl), s = St d' m i r o c ns st pl x8 x10 x11 x12 x13 x14 ∧ LSl x8 (gs.map Gate.toD) ∧ LSl x10 (strL ds) ∧ isIo (some x11) = false ∧ isIo (some x12) = false ∧ isIo (some x13) = false ∧ isIo (some x14) = false ∧
      Ranked c st gs ∧ ds.length = r + o ∧ (∀ x ∈ ds, x ∈ st ++ gs.map (·.name)) ∧ (ds.map (cnt st gs)).sum ≤ 60 ∧ (gs.map (·.name)).Sublist (tl.take t) ∧ d'.Ok (b + 1500 + 40 * t),
    ⟨[], List.replicate (r + o) s0, d5, _, _, .emp, .emp, .emp, .emp, rfl, .inl rfl, .inl rfl, rfl, rfl, rfl, rfl, ?_, List.length_replicate, fun x hx => ?_, ?_, ?_, h5.mono (by omega)⟩, fun t x s hx ⟨gs, ds, d', x8, x10, x11, x12, x13, x14, es, l8, l10, i11, i12, i13, i14, rk, ld, dd, few, sub, hd⟩ => ?_, fun s ⟨gs, ds, d', x8, x10, x11, x12, x13, x14, es, l8, l10, i11, i12, i13, i14, rk, ld, dd, few, sub, hd⟩ => ?_⟩
  · intro a b' g e
    exact absurd e (by simp)
  · rw [List.eq_of_mem_replicate hx, hs0]
    exact List.mem_append_left _ List.mem_cons_self
  · rw [cnt_nil fun x hx => by rw [List.eq_of_mem_replicate hx, hs0]; exact List.mem_cons_self, List.length_replicate]
    omega
  · exact List.nil_sublist _
  · subst es
    have ht : t < tl.length := by
      have := (List.getElem?_eq_some_iff.mp hx).1
      rw [lL] at this
      exact this
    have ex : x = .str tl[t] := by
      rw [strL, List.getElem?_map, List.getElem?_eq_getElem ht] at hx
      cases hx
      rfl
    subst ex
    have lg : gs.length ≤ t := by
      have := sub.length_le
      rw [List.length_map, List.length_take] at this
      omega
    refine bind_nm (x := x11) rfl i11 <| turn_gate N hΦ hd (by omega) l8 l10 i12 i13 i14 (by omega) (by omega) (by omega) (by omega) (by omega) (by omega) rk ld dd few fun gs' ds' d2 y8 y10 y12 y13 y14 hg k8 k10 k12 k13 k14 rk' ld' dd' few' hd' => ?_
    refine ⟨gs', ds', d2, y8, y10, _, y12, y13, y14, rfl, k8, k10, rfl, k12, k13, k14, rk', ld', dd', few', ?_, hd'.mono (by omega)⟩
    rw [List.take_add_one, List.getElem?_eq_getElem ht]
    rcases hg with rfl | ⟨g, rfl, hn⟩
    · exact sub.trans (List.sublist_append_left _ _)
    · rw [List.map_append]
      refine sub.append ?_
      rw [List.map_cons, hn]
      exact List.Sublist.refl _
  · subst es
    rw [lL] at sub hd
    rw [List.take_length] at sub
    have lg : gs.length ≤ m := by
      have := sub.length_le
      rw [List.length_map, ltl] at this
      exact this
    refine netlist_end N hΦ hd (by omega) l8 l10 lst lpl ld (by omega) g6 (by omega) fun n d' n1 n2 n3 n4 n5 n6 n7 h' => q n d' ?_ (h'.mono (by omega))
    have hs : n.starts = st := by
      show n.ins ++ n.regs.map (·.name) = st
      rw [n1, n2, List.take_append_drop]
    have he : n.ends = ds := by
      show n.regs.map (·.data) ++ n.outs.map (·.2) = ds
      rw [n3, n5, List.take_append_drop]
    have pg : (n.gates.map (·.name)).Perm (gs.map (·.name)) := n6.map _
    have all : (n.ins ++ n.regs.map (·.name) ++ n.outs.map (·.1) ++ n.gates.map (·.name)).Perm (st ++ pl ++ gs.map (·.name)) := by
      rw [n1, n2, List.take_append_drop, n4]
      exact List.Perm.append_left _ pg
    have subA : (st ++ pl ++ gs.map (·.name)).Sublist ns := by
      rw [nsE]
      exact (List.Sublist.refl _).append sub
    refine ⟨all.nodup_iff.mpr (nd.sublist subA), fun x hx => isN x (subA.subset (all.mem_iff.mp hx)), ⟨c, gs, by omega, by omega, n6.symm, by rw [hs]; exact rk, by rw [hs, he]; exact few⟩, fun x hx => ?_, by rw [hs]; omega, by rw [hs]; omega, ?_, ?_, by rw [n6.length_eq]; exact lg, n7⟩
    · rw [he] at hx
      rw [hs]
      rcases List.mem_append.mp (dd x hx) with z | z
      · exact List.mem_append_left _ z
      · exact List.mem_append_right _ (pg.mem_iff.mpr z)
    · have := congrArg List.length n2
      rw [List.length_map, List.length_drop] at this
      omega
    · have := congrArg List.length n4
      rw [List.length_map] at this
      omega
end
end ND

/-! KA0: the cores of defs that many laws share (printed by nd.py from their texts). -/
namespace KA
open PySem GS
def k_is_whole : CSs := (.cons (.ret (.and (.isi (.var 0) "int") (.and (.not (.isi (.var 0) "bool")) (.chain .LtE .LtE (.var 1) (.var 0) (.var 2))))) .nil)
def q_is_name_0 : GS.CE := .comp [1] (.nm 1) (.v (.var 0)) .nil (.cmp .In (.var 1) (.glob ("SMALL" : Str)))
def k_is_name : CSs := (.cons (.ife (.or (.not (.isi (.var 0) "str")) (.not (.chain .LtE .LtE (.con (.int (1))) (.bi "len" (.cons (.var 0) .nil)) (.glob ("MOST_LETTERS" : Str))))) (.cons (.ret (.con (.bool false))) .nil) .nil) (.cons (.ret (.bi "all" (.cons q_is_name_0 .nil))) .nil))
def q_starts_of_0 : GS.CE := .comp [1] (.nm 1) (.v (.idx (.var 0) (.con (.int (2))))) .nil (.idx (.var 1) (.con (.int (0))))
def k_starts_of : CSs := (.cons (.ret (.bin .Add (.idx (.var 0) (.con (.int (0)))) (.bi "tuple" (.cons q_starts_of_0 .nil)))) .nil)
def q_ends_of_0 : GS.CE := .gen [1, 2] (.nm 1) (.v (.slc (.var 0) (.cons (.con (.int (2))) .nil) .nil)) .nil (.into [2] (.nm 2) (.v (.var 1)) .nil (.lst (.idx (.var 2) (.con (.int (0))))))
def k_ends_of : CSs := (.cons (.ret (.bi "tuple" (.cons q_ends_of_0 .nil))) .nil)
def k_corners_of : CSs := (.cons (.ret (.ite (.cmp .NotEq (.idx (.var 0) (.con (.int (1)))) (.tup .nil)) (.bi "len" (.cons (.idx (.idx (.idx (.var 0) (.con (.int (1)))) (.con (.int (0)))) (.con (.int (3)))) .nil)) (.con (.int (1))))) .nil)
def q_feeding_0 : GS.CE := .gen [2] (.nm 2) (.v (.idx (.var 0) (.con (.int (1))))) .nil (.dic (.idx (.var 2) (.con (.int (0)))) (.idx (.var 2) (.con (.int (2)))))
def q_feeding_1 : GS.CE := .gen [3, 4] (.nm 3) (.v (.slc (.var 0) (.cons (.con (.int (2))) .nil) .nil)) .nil (.into [4] (.nm 4) (.v (.var 3)) .nil (.dic (.idx (.var 4) (.con (.int (0)))) (.tup (.cons (.idx (.var 4) (.con (.int (1)))) .nil))))
def k_feeding : CSs := (.cons (.set 1 q_feeding_0) (.cons (.ex (.upd 1 q_feeding_1)) (.cons (.ret (.var 1)) .nil)))
def q_is_path_0 : GS.CE := .comp [8] (.nm 8) (.v (.var 1)) .nil (.call ("is_name" : Str) (.cons (.var 8) .nil) [.pos 0])
def q_is_path_1 : GS.CE := .gen [9] (.nm 9) (.v (.idx (.var 0) (.con (.int (1))))) .nil (.dic (.idx (.var 9) (.con (.int (0)))) (.idx (.var 9) (.con (.int (2)))))
def q_is_path_2 : CS := .for_ (.nm 8) (.v (.var 4)) (.cons (.ife (.or (.cmp .NotIn (.var 8) (.var 6)) (.cmp .NotIn (.var 7) (.idx (.var 6) (.var 8)))) (.cons (.ret (.con (.bool false))) .nil) .nil) (.cons (.set 7 (.var 8)) .nil))
def k_is_path : CSs := (.cons (.ife (.or (.not (.isi (.var 1) "tuple")) (.or (.cmp .Lt (.bi "len" (.cons (.var 1) .nil)) (.con (.int (2)))) (.not (.bi "all" (.cons q_is_path_0 .nil))))) (.cons (.ret (.con (.bool false))) .nil) .nil) (.cons (.sset [2] 3 [] (.var 1)) (.cons (.sset [] 4 [5] (.var 3)) (.cons (.ife (.or (.cmp .NotIn (.var 2) (.call ("starts_of" : Str) (.cons (.var 0) .nil) [.pos 0])) (.cmp .NotIn (.var 5) (.call ("ends_of" : Str) (.cons (.var 0) .nil) [.pos 0]))) (.cons (.ret (.con (.bool false))) .nil) .nil) (.cons (.par 6 7 q_is_path_1 (.var 2)) (.cons q_is_path_2 (.cons (.ret (.cmp .Eq (.idx (.call ("feeding" : Str) (.cons (.var 0) .nil) [.pos 0]) (.var 5)) (.tup (.cons (.var 7) .nil)))) .nil)))))))
def k_need_path : CSs := (.cons (.ife (.not (.call ("is_path" : Str) (.cons (.var 0) (.cons (.var 1) .nil)) [.pos 0, .pos 1])) (.cons .nev .nil) .nil) .nil)
def q_are_skews_0 : GS.CE := .comp [2] (.nm 2) (.v (.var 1)) .nil (.call ("is_whole" : Str) (.cons (.var 2) (.cons (.neg (.glob ("MOST_SHIFT" : Str))) (.cons (.glob ("MOST_SHIFT" : Str)) .nil))) [.pos 0, .pos 1, .pos 2])
def k_are_skews : CSs := (.cons (.ife (.or (.not (.isi (.var 1) "tuple")) (.cmp .NotEq (.bi "len" (.cons (.var 1) .nil)) (.bi "len" (.cons (.idx (.var 0) (.con (.int (2)))) .nil)))) (.cons (.ret (.con (.bool false))) .nil) .nil) (.cons (.ret (.bi "all" (.cons q_are_skews_0 .nil))) .nil))
def k_is_clock : CSs := (.cons (.ife (.or (.not (.isi (.var 1) "tuple")) (.cmp .NotEq (.bi "len" (.cons (.var 1) .nil)) (.con (.int (2))))) (.cons (.ret (.con (.bool false))) .nil) .nil) (.cons (.ret (.and (.call ("is_whole" : Str) (.cons (.idx (.var 1) (.con (.int (0)))) (.cons (.con (.int (1))) (.cons (.glob ("MOST_PERIOD" : Str)) .nil))) [.pos 0, .pos 1, .pos 2]) (.call ("are_skews" : Str) (.cons (.var 0) (.cons (.idx (.var 1) (.con (.int (1)))) .nil)) [.pos 0, .pos 1]))) .nil))
def k_need_clock : CSs := (.cons (.ife (.not (.call ("is_clock" : Str) (.cons (.var 0) (.cons (.var 1) .nil)) [.pos 0, .pos 1])) (.cons .nev .nil) .nil) .nil)
def k_is_corner : CSs := (.cons (.ret (.call ("is_whole" : Str) (.cons (.var 1) (.cons (.bin .Sub (.call ("corners_of" : Str) (.cons (.var 0) .nil) [.pos 0]) (.con (.int (1)))) .nil)) [.pos 0, .dfl (.int (0)), .pos 1])) .nil)
def k_need_corner : CSs := (.cons (.ife (.not (.call ("is_corner" : Str) (.cons (.var 0) (.cons (.var 1) .nil)) [.pos 0, .pos 1])) (.cons .nev .nil) .nil) .nil)
def q_fits_end_0 : GS.CE := .comp [3] (.nm 3) (.v (.idx (.var 0) (.con (.int (2))))) .nil (.idx (.var 3) (.con (.int (0))))
def k_fits_end : CSs := (.cons (.ife (.or (.not (.isi (.var 1) "str")) (.not (.isi (.var 2) "str"))) (.cons (.ret (.con (.bool false))) .nil) .nil) (.cons (.ife (.cmp .Eq (.var 1) (.con (.str ("late" : Str)))) (.cons (.ret (.cmp .In (.var 2) (.call ("ends_of" : Str) (.cons (.var 0) .nil) [.pos 0]))) .nil) .nil) (.cons (.ret (.and (.cmp .Eq (.var 1) (.con (.str ("early" : Str)))) (.cmp .In (.var 2) q_fits_end_0))) .nil)))
def q_sums_along_0 : GS.CE := .comp [4] (.nm 4) (.v (.idx (.var 0) (.con (.int (1))))) (.cons (.cmp .In (.idx (.var 4) (.con (.int (0)))) (.slc (.var 1) (.cons (.con (.int (1))) .nil) (.cons (.neg (.con (.int (1)))) .nil))) .nil) (.idx (.idx (.var 4) (.con (.int (3)))) (.var 2))
def q_sums_along_1 : GS.CE := .comp [5, 6] (.tup [5, 6]) (.v (.var 3)) .nil (.var 5)
def q_sums_along_2 : GS.CE := .comp [5, 6] (.tup [5, 6]) (.v (.var 3)) .nil (.var 6)
def k_sums_along : CSs := (.cons (.set 3 q_sums_along_0) (.cons (.ret (.tup (.cons (.bi "sum" (.cons q_sums_along_1 .nil)) (.cons (.bi "sum" (.cons q_sums_along_2 .nil)) .nil)))) .nil))
def k_delays_of : CSs := (.cons (.ex (.call ("need_path" : Str) (.cons (.var 0) (.cons (.var 1) .nil)) [.pos 0, .pos 1])) (.cons (.ex (.call ("need_corner" : Str) (.cons (.var 0) (.cons (.var 2) .nil)) [.pos 0, .pos 1])) (.cons (.ret (.call ("sums_along" : Str) (.cons (.var 0) (.cons (.var 1) (.cons (.var 2) .nil))) [.pos 0, .pos 1, .pos 2])) .nil)))
def q_slack_by_0 : GS.CE := .gen [15, 16] (.tup [15, 16]) (.zip true (.idx (.var 0) (.con (.int (2)))) (.var 6)) .nil (.dic (.idx (.var 15) (.con (.int (0)))) (.var 16))
def q_slack_by_1 : GS.CE := .gen [15] (.nm 15) (.v (.idx (.var 0) (.con (.int (2))))) .nil (.dic (.idx (.var 15) (.con (.int (0)))) (.slc (.var 15) (.cons (.con (.int (2))) .nil) (.cons (.con (.int (4))) .nil)))
def k_slack_by : CSs := (.cons (.tset (.tup [5, 6]) (.var 1)) (.cons (.set 7 q_slack_by_0) (.cons (.set 8 q_slack_by_1) (.cons (.tset (.tup [9, 10]) (.call ("sums_along" : Str) (.cons (.var 0) (.cons (.var 2) (.cons (.var 4) .nil))) [.pos 0, .pos 1, .pos 2])) (.cons (.par 11 12 (.meth "get" (.var 7) (.cons (.idx (.var 2) (.con (.int (0)))) (.cons (.con (.int (0))) .nil))) (.meth "get" (.var 7) (.cons (.idx (.var 2) (.neg (.con (.int (1))))) (.cons (.con (.int (0))) .nil)))) (.cons (.tset (.tup [13, 14]) (.meth "get" (.var 8) (.cons (.idx (.var 2) (.neg (.con (.int (1))))) (.cons (.tup (.cons (.con (.int (0))) (.cons (.con (.int (0))) .nil))) .nil)))) (.cons (.ret (.ite (.cmp .Eq (.var 3) (.con (.str ("late" : Str)))) (.bin .Sub (.bin .Sub (.bin .Sub (.bin .Add (.var 12) (.var 5)) (.var 13)) (.var 11)) (.var 10)) (.bin .Sub (.bin .Sub (.bin .Add (.var 11) (.var 9)) (.var 12)) (.var 14)))) .nil)))))))
def k_slack_along : CSs := (.cons (.ex (.call ("need_clock" : Str) (.cons (.var 0) (.cons (.var 1) .nil)) [.pos 0, .pos 1])) (.cons (.ex (.call ("need_path" : Str) (.cons (.var 0) (.cons (.var 2) .nil)) [.pos 0, .pos 1])) (.cons (.ife (.not (.call ("fits_end" : Str) (.cons (.var 0) (.cons (.var 3) (.cons (.idx (.var 2) (.neg (.con (.int (1))))) .nil))) [.pos 0, .pos 1, .pos 2])) (.cons .nev .nil) .nil) (.cons (.ex (.call ("need_corner" : Str) (.cons (.var 0) (.cons (.var 4) .nil)) [.pos 0, .pos 1])) (.cons (.ret (.call ("slack_by" : Str) (.cons (.var 0) (.cons (.var 1) (.cons (.var 2) (.cons (.var 3) (.cons (.var 4) .nil))))) [.pos 0, .pos 1, .pos 2, .pos 3, .pos 4])) .nil)))))
def q_law_clock_0 : GS.CE := .comp [4] (.nm 4) (.v (.idx (.var 1) (.con (.int (2))))) .nil (.idx (.lst (.cons (.bin .Sub (.call ("_law_next" : Str) (.cons (.var 0) (.cons (.con (.int (19))) .nil)) [.io 0, .pos 1]) (.con (.int (9)))) (.cons (.bin .Sub (.call ("_law_next" : Str) (.cons (.var 0) (.cons (.con (.int (1999))) .nil)) [.io 0, .pos 1]) (.con (.int (999)))) (.cons (.con (.int (0))) .nil)))) (.call ("_law_next" : Str) (.cons (.var 0) (.cons (.con (.int (3))) .nil)) [.io 0, .pos 1]))
def k_law_clock : CSs := (.cons (.set 2 (.idx (.lst (.cons (.bin .Add (.con (.int (1))) (.call ("_law_next" : Str) (.cons (.var 0) (.cons (.con (.int (40))) .nil)) [.io 0, .pos 1])) (.cons (.bin .Add (.con (.int (1))) (.call ("_law_next" : Str) (.cons (.var 0) (.cons (.con (.int (3000))) .nil)) [.io 0, .pos 1])) (.cons (.con (.int (99999))) .nil)))) (.call ("_law_next" : Str) (.cons (.var 0) (.cons (.con (.int (3))) .nil)) [.io 0, .pos 1]))) (.cons (.set 3 q_law_clock_0) (.cons (.ret (.tup (.cons (.var 2) (.cons (.bi "tuple" (.cons (.var 3) .nil)) .nil)))) .nil)))
def q_law_ways_0 : GS.CE := .comp [5] (.nm 5) (.v (.idx (.var 0) (.con (.int (1))))) .nil (.tup (.cons (.idx (.var 5) (.con (.int (0)))) (.cons (.idx (.var 5) (.con (.int (2)))) .nil)))
def q_law_ways_1 : GS.CE := .comp [6] (.nm 6) (.v (.bin .Add (.bi "list" (.cons (.idx (.var 0) (.con (.int (2)))) .nil)) (.bi "list" (.cons (.idx (.var 0) (.con (.int (3)))) .nil)))) .nil (.tup (.cons (.idx (.var 6) (.con (.int (1)))) (.cons (.idx (.var 6) (.con (.int (0)))) .nil)))
def q_law_ways_2 : GS.CE := .comp [7] (.nm 7) (.v (.idx (.var 1) (.idx (.var 4) (.con (.int (0)))))) .nil (.bin .Add (.tup (.cons (.var 7) .nil)) (.var 4))
def q_law_ways_3 : CS := .whl (.cmp .NotEq (.var 2) (.lst .nil)) (.cons (.par 4 2 (.idx (.var 2) (.con (.int (0)))) (.slc (.var 2) (.cons (.con (.int (1))) .nil) .nil)) (.cons (.ife (.cmp .In (.idx (.var 4) (.con (.int (0)))) (.var 1)) (.cons (.set 2 (.bin .Add q_law_ways_2 (.var 2))) .nil) (.cons (.ex (.mut "append" 3 (.cons (.var 4) .nil))) .nil)) .nil))
def k_law_ways : CSs := (.cons (.set 1 (.bi "dict" (.cons q_law_ways_0 .nil))) (.cons (.par 2 3 q_law_ways_1 (.lst .nil)) (.cons q_law_ways_3 (.cons (.ret (.bi "sorted" (.cons (.var 3) .nil))) .nil))))
def q_law_sums_0 : GS.CE := .comp [4] (.nm 4) (.v (.idx (.var 0) (.con (.int (1))))) (.cons (.cmp .In (.idx (.var 4) (.con (.int (0)))) (.slc (.var 1) (.cons (.con (.int (1))) .nil) (.cons (.neg (.con (.int (1)))) .nil))) .nil) (.idx (.idx (.var 4) (.con (.int (3)))) (.var 2))
def q_law_sums_1 : GS.CE := .comp [5, 6] (.tup [5, 6]) (.v (.var 3)) .nil (.var 5)
def q_law_sums_2 : GS.CE := .comp [5, 6] (.tup [5, 6]) (.v (.var 3)) .nil (.var 6)
def k_law_sums : CSs := (.cons (.set 3 q_law_sums_0) (.cons (.ret (.tup (.cons (.bi "sum" (.cons q_law_sums_1 .nil)) (.cons (.bi "sum" (.cons q_law_sums_2 .nil)) .nil)))) .nil))
def q_law_slack_0 : GS.CE := .comp [13] (.nm 13) (.v (.idx (.var 0) (.con (.int (2))))) .nil (.idx (.var 13) (.con (.int (0))))
def q_law_slack_1 : GS.CE := .comp [13] (.nm 13) (.v (.idx (.var 0) (.con (.int (2))))) .nil (.tup (.cons (.idx (.var 13) (.con (.int (0)))) (.cons (.slc (.var 13) (.cons (.con (.int (2))) .nil) (.cons (.con (.int (4))) .nil)) .nil)))
def k_law_slack : CSs := (.cons (.set 5 (.bi "dict" (.cons (.lzip q_law_slack_0 (.idx (.var 1) (.con (.int (1))))) .nil))) (.cons (.set 6 (.bi "dict" (.cons q_law_slack_1 .nil))) (.cons (.par 7 8 (.meth "get" (.var 5) (.cons (.idx (.var 2) (.con (.int (0)))) (.cons (.con (.int (0))) .nil))) (.meth "get" (.var 5) (.cons (.idx (.var 2) (.neg (.con (.int (1))))) (.cons (.con (.int (0))) .nil)))) (.cons (.tset (.tup [9, 10]) (.meth "get" (.var 6) (.cons (.idx (.var 2) (.neg (.con (.int (1))))) (.cons (.tup (.cons (.con (.int (0))) (.cons (.con (.int (0))) .nil))) .nil)))) (.cons (.tset (.tup [11, 12]) (.call ("_law_sums" : Str) (.cons (.var 0) (.cons (.var 2) (.cons (.var 4) .nil))) [.pos 0, .pos 1, .pos 2])) (.cons (.ife (.cmp .Eq (.var 3) (.con (.str ("late" : Str)))) (.cons (.ret (.bin .Sub (.bin .Sub (.bin .Sub (.bin .Add (.var 8) (.idx (.var 1) (.con (.int (0))))) (.var 9)) (.var 7)) (.var 12))) .nil) .nil) (.cons (.ret (.bin .Sub (.bin .Sub (.bin .Add (.var 7) (.var 11)) (.var 8)) (.var 10))) .nil)))))))
def k_law_corners : CSs := (.cons (.ret (.ite (.cmp .NotEq (.idx (.var 0) (.con (.int (1)))) (.tup .nil)) (.bi "len" (.cons (.idx (.idx (.idx (.var 0) (.con (.int (1)))) (.con (.int (0)))) (.con (.int (3)))) .nil)) (.con (.int (1))))) .nil)
def q_law_checks_0 : GS.CE := .comp [4] (.nm 4) (.v (.idx (.var 0) (.con (.int (2))))) .nil (.tup (.cons (.con (.str ("early" : Str))) (.cons (.idx (.var 4) (.con (.int (0)))) .nil)))
def q_law_checks_1 : GS.CE := .comp [4] (.nm 4) (.v (.bin .Add (.bi "list" (.cons (.idx (.var 0) (.con (.int (2)))) .nil)) (.bi "list" (.cons (.idx (.var 0) (.con (.int (3)))) .nil)))) .nil (.tup (.cons (.con (.str ("late" : Str))) (.cons (.idx (.var 4) (.con (.int (0)))) .nil)))
def q_law_checks_2 : GS.CE := .comp [4] (.nm 4) (.v (.var 1)) .nil (.bin .Add (.var 4) (.tup (.cons (.var 3) .nil)))
def q_law_checks_3 : CS := .for_ (.nm 3) (.rng1 (.call ("_law_corners" : Str) (.cons (.var 0) .nil) [.pos 0])) (.cons (.set 2 (.bin .Add (.var 2) q_law_checks_2)) .nil)
def k_law_checks : CSs := (.cons (.set 1 (.bin .Add q_law_checks_0 q_law_checks_1)) (.cons (.set 2 (.lst .nil)) (.cons q_law_checks_3 (.cons (.ret (.bi "sorted" (.cons (.var 2) .nil))) .nil))))
def q_law_way_right_0 : GS.CE := .comp [5, 8, 4] (.tup [5, 8, 4]) (.v (.call ("_law_checks" : Str) (.cons (.var 0) .nil) [.pos 0])) (.cons (.and (.cmp .Eq (.var 8) (.idx (.var 2) (.neg (.con (.int (1)))))) (.cmp .Eq (.var 4) (.con (.int (0))))) .nil) (.var 5)
def q_law_way_right_1 : GS.CE := .comp [9] (.nm 9) (.v (.var 7)) .nil (.bi "repr" (.cons (.var 9) .nil))
def q_law_way_right_2 : CS := .for_ (.nm 5) (.v (.var 3)) (.cons (.set 6 (.bi "repr" (.cons (.call ("_law_slack" : Str) (.cons (.var 0) (.cons (.var 1) (.cons (.var 2) (.cons (.var 5) (.cons (.var 4) .nil))))) [.pos 0, .pos 1, .pos 2, .pos 3, .pos 4]) .nil))) (.cons (.set 7 (.lst (.cons (.call ("slack_along" : Str) (.cons (.var 0) (.cons (.var 1) (.cons (.var 2) (.cons (.var 5) (.cons (.var 4) .nil))))) [.pos 0, .pos 1, .pos 2, .pos 3, .pos 4]) .nil))) (.cons (.ex (.mut "append" 7 (.cons (.call ("slack_along" : Str) (.cons (.var 0) (.cons (.var 2) (.cons (.var 1) (.cons (.var 4) (.cons (.var 5) .nil))))) [.pos 0, .pos 2, .pos 1, .pos 4, .pos 3]) .nil))) (.cons (.ife (.cmp .NotEq q_law_way_right_1 (.lst (.cons (.var 6) (.cons (.var 6) .nil)))) (.cons (.ret (.con (.bool false))) .nil) .nil) .nil))))
def q_law_way_right_3 : CS := .for_ (.nm 4) (.rng1 (.call ("_law_corners" : Str) (.cons (.var 0) .nil) [.pos 0])) (.cons (.ife (.cmp .NotEq (.bi "repr" (.cons (.call ("delays_of" : Str) (.cons (.var 0) (.cons (.var 2) (.cons (.var 4) .nil))) [.pos 0, .pos 1, .pos 2]) .nil)) (.bi "repr" (.cons (.call ("_law_sums" : Str) (.cons (.var 0) (.cons (.var 2) (.cons (.var 4) .nil))) [.pos 0, .pos 1, .pos 2]) .nil))) (.cons (.ret (.con (.bool false))) .nil) .nil) (.cons (.ife (.cmp .NotEq (.bi "repr" (.cons (.call ("slack_along" : Str) (.cons (.var 0) (.cons (.var 1) (.cons (.var 2) (.cons (.var 4) .nil)))) [.pos 0, .pos 1, .pos 2, .dfl (.str ("late" : Str)), .pos 3]) .nil)) (.bi "repr" (.cons (.call ("_law_slack" : Str) (.cons (.var 0) (.cons (.var 1) (.cons (.var 2) (.cons (.con (.str ("late" : Str))) (.cons (.var 4) .nil))))) [.pos 0, .pos 1, .pos 2, .pos 3, .pos 4]) .nil))) (.cons (.ret (.con (.bool false))) .nil) .nil) (.cons q_law_way_right_2 .nil)))
def k_law_way_right : CSs := (.cons (.set 3 q_law_way_right_0) (.cons (.ife (.cmp .NotEq (.bi "repr" (.cons (.call ("delays_of" : Str) (.cons (.var 0) (.cons (.var 2) .nil)) [.pos 0, .pos 1, .dfl (.int (0))]) .nil)) (.bi "repr" (.cons (.call ("_law_sums" : Str) (.cons (.var 0) (.cons (.var 2) (.cons (.con (.int (0))) .nil))) [.pos 0, .pos 1, .pos 2]) .nil))) (.cons (.ret (.con (.bool false))) .nil) .nil) (.cons (.ife (.cmp .NotEq (.bi "repr" (.cons (.call ("slack_along" : Str) (.cons (.var 0) (.cons (.var 1) (.cons (.var 2) .nil))) [.pos 0, .pos 1, .pos 2, .dfl (.str ("late" : Str)), .dfl (.int (0))]) .nil)) (.bi "repr" (.cons (.call ("_law_slack" : Str) (.cons (.var 0) (.cons (.var 1) (.cons (.var 2) (.cons (.con (.str ("late" : Str))) (.cons (.con (.int (0))) .nil))))) [.pos 0, .pos 1, .pos 2, .pos 3, .pos 4]) .nil))) (.cons (.ret (.con (.bool false))) .nil) .nil) (.cons q_law_way_right_3 (.cons (.ret (.con (.bool true))) .nil)))))
def q_law_0 : GS.CE := .comp [6] (.nm 6) (.rng1 (.con (.int (3)))) .nil (.call ("_law_netlist" : Str) (.cons (.var 1) (.cons (.call ("_law_next" : Str) (.cons (.var 1) (.cons (.con (.int (10))) .nil)) [.io 0, .pos 1]) .nil)) [.io 0, .pos 1])
def q_law_1 : GS.CE := .comp [7] (.nm 7) (.v (.call ("_law_ways" : Str) (.cons (.var 3) .nil) [.pos 0])) .nil (.call ("_law_way_right" : Str) (.cons (.var 3) (.cons (.var 4) (.cons (.var 7) .nil))) [.pos 0, .pos 1, .pos 2])
def q_law_2 : CS := .for_ (.nm 3) (.v (.var 2)) (.cons (.set 4 (.call ("_law_clock" : Str) (.cons (.var 1) (.cons (.var 3) .nil)) [.io 0, .pos 1])) (.cons (.set 5 (.bi "repr" (.cons (.tup (.cons (.var 3) (.cons (.var 4) .nil))) .nil))) (.cons (.ife (.or (.not (.bi "all" (.cons q_law_1 .nil))) (.cmp .NotEq (.bi "repr" (.cons (.tup (.cons (.var 3) (.cons (.var 4) .nil))) .nil)) (.var 5))) (.cons (.ret (.con (.bool false))) .nil) .nil) .nil)))
def k_law : CSs := (.cons (.set 1 (.call ("_law_begin" : Str) (.cons (.var 0) .nil) [.pos 0])) (.cons (.set 2 q_law_0) (.cons (.ex (.mut "append" 2 (.cons (.tup (.cons (.tup (.cons (.con (.str ("x" : Str))) .nil)) (.cons (.tup .nil) (.cons (.tup (.cons (.tup (.cons (.con (.str ("r" : Str))) (.cons (.con (.str ("r" : Str))) (.cons (.con (.int (3))) (.cons (.con (.int (2))) (.cons (.neg (.con (.int (5)))) (.cons (.con (.int (5))) .nil))))))) (.cons (.tup (.cons (.con (.str ("q" : Str))) (.cons (.con (.str ("x" : Str))) (.cons (.con (.int (1))) (.cons (.con (.int (4))) (.cons (.con (.int (0))) (.cons (.con (.int (0))) .nil))))))) .nil))) (.cons (.tup (.cons (.tup (.cons (.con (.str ("y" : Str))) (.cons (.con (.str ("r" : Str))) .nil))) (.cons (.tup (.cons (.con (.str ("z" : Str))) (.cons (.con (.str ("x" : Str))) .nil))) .nil))) .nil))))) .nil))) (.cons q_law_2 (.cons (.ret (.con (.bool true))) .nil)))))
/-- the program has these defs -/
structure Has (p : Prog) : Prop where
  f_is_whole : p.fs "is_whole" = some ⟨3, 3, none, k_is_whole⟩
  f_is_name : p.fs "is_name" = some ⟨2, 1, none, k_is_name⟩
  f_starts_of : p.fs "starts_of" = some ⟨2, 1, none, k_starts_of⟩
  f_ends_of : p.fs "ends_of" = some ⟨3, 1, none, k_ends_of⟩
  f_corners_of : p.fs "corners_of" = some ⟨1, 1, none, k_corners_of⟩
  f_feeding : p.fs "feeding" = some ⟨5, 1, none, k_feeding⟩
  f_is_path : p.fs "is_path" = some ⟨10, 2, none, k_is_path⟩
  f_need_path : p.fs "need_path" = some ⟨2, 2, none, k_need_path⟩
  f_are_skews : p.fs "are_skews" = some ⟨3, 2, none, k_are_skews⟩
  f_is_clock : p.fs "is_clock" = some ⟨2, 2, none, k_is_clock⟩
  f_need_clock : p.fs "need_clock" = some ⟨2, 2, none, k_need_clock⟩
  f_is_corner : p.fs "is_corner" = some ⟨2, 2, none, k_is_corner⟩
  f_need_corner : p.fs "need_corner" = some ⟨2, 2, none, k_need_corner⟩
  f_fits_end : p.fs "fits_end" = some ⟨4, 3, none, k_fits_end⟩
  f_sums_along : p.fs "sums_along" = some ⟨7, 3, none, k_sums_along⟩
  f_delays_of : p.fs "delays_of" = some ⟨3, 3, none, k_delays_of⟩
  f_slack_by : p.fs "slack_by" = some ⟨17, 5, none, k_slack_by⟩
  f_slack_along : p.fs "slack_along" = some ⟨5, 5, none, k_slack_along⟩
  f_law_clock : p.fs "_law_clock" = some ⟨5, 2, some 0, k_law_clock⟩
  f_law_ways : p.fs "_law_ways" = some ⟨8, 1, none, k_law_ways⟩
  f_law_sums : p.fs "_law_sums" = some ⟨7, 3, none, k_law_sums⟩
  f_law_slack : p.fs "_law_slack" = some ⟨14, 5, none, k_law_slack⟩
  f_law_corners : p.fs "_law_corners" = some ⟨1, 1, none, k_law_corners⟩
  f_law_checks : p.fs "_law_checks" = some ⟨5, 1, none, k_law_checks⟩
  f_law_way_right : p.fs "_law_way_right" = some ⟨10, 3, none, k_law_way_right⟩
  f_law : p.fs "law" = some ⟨8, 1, none, k_law⟩
  loop : p.Λ = whileW
end KA

/-! KA1: whole numbers, names, starts, corners. -/
namespace KA
open PySem GS ND
structure Con (p : Prog) : Prop where
  small : p.G "SMALL" = some (.str letS)
  ml : p.G "MOST_LETTERS" = some (.int 8)
  mp : p.G "MOST_PERIOD" = some (.int 99999)
  ms : p.G "MOST_SHIFT" = some (.int 9999)
section
variable {O : Ora} {s : Ev} {P : RV → Ev → Prop} {E : Xn → Ev → Prop} {a b c e : GS.CE} {es : CEs} {it : CI} {i : Nat}
theorem e_chain {o q : CmpOp} (h : WG (ev O a s) (fun x s => WG (ev O b s) (fun y s => ∃ u v t, x.opd.get s = some u ∧ y.opd.get s = some v ∧ cmpD o u v = some t ∧ if t = true then WG (ev O c s) (fun z s => ∃ v w r, y.opd.get s = some v ∧ z.opd.get s = some w ∧ cmpD q v w = some r ∧ P (.d (.bool r)) s) E else P (.d (.bool false)) s) E) E) : WG (ev O (.chain o q a b c) s) P E := by
  refine WG_bind.mpr (h.mono (fun x s h => WG_bind.mpr (h.mono (fun y s h => ?_) fun _ _ z => z)) fun _ _ z => z)
  obtain ⟨u, v, t, e1, e2, e3, h⟩ := h
  rw [e1, e2]
  show WG (match cmpD o u v with
    | some true => (ev O c s).bind fun z s => match y.opd.get s, z.opd.get s with
      | some y, some z => Rs.opt ((cmpD q y z).map fun c => RV.d (.bool c)) s
      | _, _ => .stuck
    | some false => .ok (.d (.bool false)) s
    | none => .stuck) P E
  rw [e3]
  cases t with
  | false => exact w_ok.mpr h
  | true =>
    have h : WG (ev O c s) _ E := h
    refine WG_bind.mpr (h.mono (fun z s h => ?_) fun _ _ z => z)
    obtain ⟨v, w, r, e1, e2, e3, q⟩ := h
    rw [e1, e2]
    exact w_opt.mpr ⟨_, by rw [e3]; rfl, q⟩
theorem b_all (bs : List Bool) : biD "all" [.list (bs.map PyData.bool)] = some (.d (.bool (bs.all id))) := by
  have e : bools (bs.map PyData.bool) = some bs := by
    induction bs with
    | nil => rfl
    | cons b r ih =>
      show (bools (r.map PyData.bool)).map (b :: ·) = _
      rw [ih]
      rfl
  show ((bools (bs.map PyData.bool)).map fun bs => RV.d (.bool (bs.all id))) = _
  rw [e]
  rfl
end
section
variable {p : Prog}
theorem r_is_whole (A : Has p) (k : Nat) (n lo hi : Int) {P : RV → Option Ob → Prop} {E : Xn → Option Ob → Prop} (h : lo ≤ n ∧ n ≤ hi) (q : P (.d (.bool true)) none) :
    wpR (run p (k + 1) "is_whole" [.d (.int n), .d (.int lo), .d (.int hi)]) P E := by
  refine wp_run A.f_is_whole rfl fun O hΦ hG hΛ => ?_
  show WG (exB O k_is_whole [.val (.int n), .val (.int lo), .val (.int hi)]) _ _
  unfold k_is_whole
  refine b_cons.mpr <| s_ret.mpr <| e_and.mpr <| e_isi.mpr <| (e_val rfl).mpr ⟨true, rfl, true, rfl, e_and.mpr <| e_not.mpr <| e_isi.mpr <| (e_val rfl).mpr ⟨false, rfl, false, rfl, true, rfl, e_chain <| (e_val rfl).mpr <| (e_val rfl).mpr ⟨_, _, true, rfl, rfl, ?_, (e_val rfl).mpr ⟨_, _, true, rfl, rfl, ?_, w_retd q⟩⟩⟩⟩
  · show some (decide (lo ≤ n)) = _
    rw [decide_eq_true h.1]
  · show some (decide (n ≤ hi)) = _
    rw [decide_eq_true h.2]
theorem occ_let : ∀ c, 97 ≤ c → c < 123 → (Builtin.Str.occurrences letS ⟨#[c]⟩ 0 letS.length 1).isEmpty = false := by
  intro c h1 h2
  have all : ∀ j, j < 26 → (Builtin.Str.occurrences letS ⟨#[97 + j]⟩ 0 letS.length 1).isEmpty = false := by decide +kernel
  have := all (c - 97) (by omega)
  rwa [show 97 + (c - 97) = c by omega] at this
theorem r_is_name (A : Has p) (C : Con p) (k : Nat) (x : Str) (h : IsName x) {P : RV → Option Ob → Prop} {E : Xn → Option Ob → Prop} (q : P (.d (.bool true)) none) :
    wpR (run p (k + 1) "is_name" [.d (.str x)]) P E := by
  obtain ⟨n, n1, n8, nm⟩ := h
  refine wp_run A.f_is_name rfl fun O hΦ hG hΛ => ?_
  show WG (exB O k_is_name [.val (.str x), .emp]) _ _
  unfold k_is_name
  have l1 : cmpD .LtE (.int 1) (.int (x.length : Int)) = some true := by
    show some (decide ((1 : Int) ≤ (x.length : Int))) = _
    rw [decide_eq_true (by rw [nm.len]; omega)]
  have l2 : cmpD .LtE (.int (x.length : Int)) (.int 8) = some true := by
    show some (decide ((x.length : Int) ≤ 8)) = _
    rw [decide_eq_true (by rw [nm.len]; omega)]
  refine b_cons.mpr <| s_ife.mpr <| e_or.mpr <| e_not.mpr <| e_isi.mpr <| (e_val rfl).mpr ⟨true, rfl, true, rfl, false, rfl, e_not.mpr <| e_chain <| e_con.mpr <| e_bi.mpr <| e_cons.mpr <| (e_val rfl).mpr <| e_nil.mpr ⟨_, rfl, _, _, true, rfl, rfl, l1, e_glob.mpr ⟨.int 8, by rw [hG]; exact C.ml, _, _, true, rfl, rfl, l2, true, rfl, false, rfl, b_nil.mpr ?_⟩⟩⟩
  unfold q_is_name_0
  refine b_cons.mpr <| s_ret.mpr <| e_bi.mpr <| e_cons.mpr <| e_map <| i_v <| (e_val rfl).mpr <| w_frzd ⟨x.cps.toList.map chr1, rfl, .emp, fun _ => .bool true, rfl, rfl, ?_, fun y hy => ?_, ?_⟩
  · rw [List.length_map, sl16]
    have : x.cps.toList.length = n := nm.len
    omega
  · obtain ⟨c, hc, rfl⟩ := List.mem_map.mp hy
    obtain ⟨c1, c2⟩ := nm.low c hc
    refine e_cmp.mpr <| (e_val rfl).mpr <| e_glob.mpr ⟨.str letS, by rw [hG]; exact C.small, _, _, rfl, rfl, true, ?_, w_frzd ⟨rfl, rfl⟩⟩
    show some (!(Builtin.Str.occurrences letS ⟨#[c]⟩ 0 letS.length 1).isEmpty) = _
    rw [occ_let c c1 c2]
    rfl
  · have e : (x.cps.toList.map chr1).map (fun _ => PyData.bool true) = (x.cps.toList.map fun _ => true).map PyData.bool := by rw [List.map_map, List.map_map]; rfl
    rw [e]
    refine e_nil.mpr ⟨_, b_all _, w_retd ?_⟩
    have t : ((x.cps.toList.map fun _ => true).all id) = true := by
      rw [List.all_eq_true]
      intro b hb
      obtain ⟨_, _, rfl⟩ := List.mem_map.mp hb
      rfl
    rw [t]
    exact q
/-! ### a netlist's parts -/
def hdR : D → D := hdD
theorem hd_regs (rs : List Reg) : (rs.map Reg.toD).map hdD = strL (rs.map (·.name)) := by
  unfold strL
  rw [List.map_map, List.map_map]
  rfl
theorem hd_outs (os : List (Str × Str)) : (os.map outD).map hdD = strL (os.map (·.1)) := by
  unfold strL
  rw [List.map_map, List.map_map]
  rfl
theorem add_tups (xs ys : List D) (h : xs.length + ys.length ≤ sizeLine) : binD .Add (.tuple xs) (.tuple ys) = some (.d (.tuple (xs ++ ys))) := if_pos h
theorem i_ins (n : Net) : idxD n.toD (.int 0) = some (.tuple (strL n.ins)) := rfl
theorem i_gates (n : Net) : idxD n.toD (.int 1) = some (.tuple (n.gates.map Gate.toD)) := rfl
theorem i_regs (n : Net) : idxD n.toD (.int 2) = some (.tuple (n.regs.map Reg.toD)) := rfl
theorem i_outs (n : Net) : idxD n.toD (.int 3) = some (.tuple (n.outs.map outD)) := rfl
/-- what every netlist here is -/
structure Small (n : Net) : Prop where
  g : n.gates.length ≤ 30
  i : n.ins.length ≤ 6
  r : n.regs.length ≤ 4
  o : n.outs.length ≤ 4
theorem small {n : Net} {m : Nat} (h : n.Ok m) (hm : m ≤ 30) : Small n := by
  refine ⟨Nat.le_trans h.fewG hm, ?_, h.fewR, h.fewO⟩
  have := h.few
  unfold Net.starts at this
  rw [List.length_append] at this
  omega
theorem r_starts_of (A : Has p) (k : Nat) (n : Net) (h : Small n) {P : RV → Option Ob → Prop} {E : Xn → Option Ob → Prop} (q : P (.d (.tuple (strL n.starts))) none) :
    wpR (run p (k + 1) "starts_of" [.d n.toD]) P E := by
  refine wp_run A.f_starts_of rfl fun O hΦ hG hΛ => ?_
  show WG (exB O k_starts_of [.val n.toD, .emp]) _ _
  unfold k_starts_of
  have h1 := h.i
  have h2 := h.r
  unfold q_starts_of_0
  refine b_cons.mpr <| s_ret.mpr <| e_bin.mpr <| e_idx.mpr <| (e_val rfl).mpr <| e_con.mpr ⟨_, _, rfl, rfl, _, i_ins n, e_bi.mpr <| e_cons.mpr <| e_map <| i_v <| e_idx.mpr <| (e_val rfl).mpr <| e_con.mpr ⟨_, _, rfl, rfl, _, i_regs n, w_frzd ⟨n.regs.map Reg.toD, rfl, .emp, hdD, rfl, rfl, by rw [List.length_map, sl16]; omega, fun x hx => ?_, ?_⟩⟩⟩
  · obtain ⟨r, _, rfl⟩ := List.mem_map.mp hx
    exact e_idx.mpr <| (e_val rfl).mpr <| e_con.mpr ⟨_, _, rfl, rfl, .str r.name, rfl, w_frzd ⟨rfl, rfl⟩⟩
  · rw [hd_regs]
    have l1 : (strL n.ins).length = n.ins.length := List.length_map ..
    have l2 : (strL (n.regs.map (·.name))).length = n.regs.length := by rw [strL, List.length_map, List.length_map]
    refine e_nil.mpr ⟨.d (.tuple (strL (n.regs.map (·.name)))), rfl, _, _, rfl, rfl, _, add_tups _ _ (by rw [l1, l2, sl16]; omega), w_retd ?_⟩
    have e : strL n.ins ++ strL (n.regs.map (·.name)) = strL n.starts := (List.map_append ..).symm
    rw [e]
    exact q
end
end KA

/-! KA2: rules of comprehensions of other kinds; ends, corners. -/
namespace KA
open PySem GS ND
section
variable {O : Ora} {s : Ev} {P : RV → Ev → Prop} {E : Xn → Ev → Prop} {a b c e kx vx : GS.CE} {es : CEs} {it : CI} {i : Nat} {ow : List Nat} {tg : CT} {ifs : CEs} {A : CA}
theorem e_gen (h : WG (evI O it s) (fun xs s0 => tgIn ow tg = true ∧ WG (wipeC ow s0) (fun _ s1 => WG (compO ow tg (fun s => evT O ifs s) (fun acc s => evA O A acc s) xs (newA A) s1) (fun acc s' => P (.own acc) (backS s0 s' ow)) fun _ _ => False) E) E) : WG (ev O (.gen ow tg it ifs A) s) P E := by
  refine WG_bind.mpr (h.mono (fun xs s0 h => ?_) fun _ _ z => z)
  obtain ⟨t, h⟩ := h
  rw [if_neg (by rw [t]; decide)]
  refine WG_bind.mpr (h.mono (fun _ s1 h => ?_) fun _ _ z => z)
  have h2 : WG ((compO ow tg (fun s => evT O ifs s) (fun acc s => evA O A acc s) xs (newA A) s1).bind fun acc s' => .ok (RV.own acc) (backS s0 s' ow)) P (fun _ _ => False) := WG_bind.mpr (h.mono (fun acc s' h => w_ok.mpr h) fun _ _ z => z)
  revert h2
  generalize ((compO ow tg (fun s => evT O ifs s) (fun acc s => evA O A acc s) xs (newA A) s1).bind fun acc s' => Rs.ok (RV.own acc) (backS s0 s' ow)) = r
  intro h2
  cases h2 with
  | ok h => exact w_ok.mpr h
  | er h => exact h.elim
theorem wp_compO {tests : Ev → Rs Bool} {act : Ob → Ev → Rs Ob} {Q : Ob → Ev → Prop} {xs : List D} (I : Nat → Ob → Ev → Prop)
    (step : ∀ i x acc s, xs[i]? = some x → I i acc s → WG (bindT tg x s) (fun _ s => WG (tests s) (fun t s => if t then WG (act acc s) (fun acc s => WG (wipeC ow s) (fun _ s => I (i + 1) acc s) E) E else WG (wipeC ow s) (fun _ s => I (i + 1) acc s) E) E) E)
    (fin : ∀ acc s, I xs.length acc s → Q acc s) : ∀ {acc : Ob} {s : Ev}, I 0 acc s → WG (compO ow tg tests act xs acc s) Q E := by
  have all : ∀ (n : Nat) (acc : Ob) (s : Ev), n ≤ xs.length → I (xs.length - n) acc s → WG (compO ow tg tests act (xs.drop (xs.length - n)) acc s) Q E := by
    intro n
    induction n with
    | zero =>
      intro acc s _ h
      rw [Nat.sub_zero, List.drop_length]
      exact w_ok.mpr (fin acc s h)
    | succ n ih =>
      intro acc s hn h
      have lt : xs.length - (n + 1) < xs.length := by omega
      rw [List.drop_eq_getElem_cons lt]
      have nx : xs.length - (n + 1) + 1 = xs.length - n := by omega
      refine WG_bind.mpr ((step _ _ acc s (List.getElem?_eq_getElem lt) h).mono (fun _ s h => WG_bind.mpr (h.mono (fun t s h => ?_) fun _ _ z => z)) fun _ _ z => z)
      rw [nx] at h ⊢
      cases t with
      | false => exact WG_bind.mpr (h.mono (fun _ s h => ih acc s (by omega) h) fun _ _ z => z)
      | true =>
        have h : WG (act acc s) _ E := h
        refine WG_bind.mpr (h.mono (fun d s h => ?_) fun _ _ z => z)
        exact WG_bind.mpr (h.mono (fun _ s h => ih _ s (by omega) h) fun _ _ z => z)
  intro acc s h
  have := all xs.length acc s (Nat.le_refl _) (by rw [Nat.sub_self]; exact h)
  rw [Nat.sub_self, List.drop_zero] at this
  exact this
theorem a_lst {ys : List D} {Q : Ob → Ev → Prop} (h : WG (ev O e s) (fun v s => WG (frz v s) (fun d s => ys.length < sizeLine ∧ Q (.lst (ys ++ [d])) s) E) E) : WG (evA O (.lst e) (.lst ys) s) Q E := by
  refine WG_bind.mpr (WG_bind.mpr (h.mono (fun v s h => h.mono (fun d s ⟨l, q⟩ => ?_) fun _ _ z => z) fun _ _ z => z))
  rw [if_pos l]
  exact w_ok.mpr q
theorem a_dic {kvs : List (D × D)} {Q : Ob → Ev → Prop} (h : WG (ev O kx s) (fun v s => WG (frz v s) (fun k s => WG (ev O vx s) (fun v s => WG (frz v s) (fun d s => keyOk k = true ∧ kvs.length < sizeLine ∧ Q (.dic (putD k d kvs)) s) E) E) E) E) : WG (evA O (.dic kx vx) (.dic kvs) s) Q E := by
  refine WG_bind.mpr (WG_bind.mpr (h.mono (fun v s h => h.mono (fun k s h => WG_bind.mpr (WG_bind.mpr (h.mono (fun v s h => h.mono (fun d s ⟨l1, l2, q⟩ => ?_) fun _ _ z => z) fun _ _ z => z))) fun _ _ z => z) fun _ _ z => z))
  rw [if_pos (by rw [Bool.and_eq_true, decide_eq_true_eq]; exact ⟨l1, l2⟩)]
  exact w_ok.mpr q
theorem a_into {acc : Ob} {Q : Ob → Ev → Prop} (h : WG (evI O it s) (fun xs s => tgIn ow tg = true ∧ WG (wipeC ow s) (fun _ s => WG (compO ow tg (fun s => evT O ifs s) (fun acc s => evA O A acc s) xs acc s) Q E) E) E) : WG (evA O (.into ow tg it ifs A) acc s) Q E := by
  refine WG_bind.mpr (h.mono (fun xs s ⟨t, h⟩ => ?_) fun _ _ z => z)
  rw [if_neg (by rw [t]; decide)]
  exact WG_bind.mpr h
theorem w_wipe2 {i j : Nat} {x y : Sl} {QU : Unit → Ev → Prop} (h1 : s[i]? = some x) (h2 : s[j]? = some y) (o1 : isOwn (some x) = false) (o2 : isOwn (some y) = false) (q : QU () ((s.set j .emp).set i .emp)) : WG (wipeC [i, j] s) QU E := by
  unfold wipeC
  rw [List.any_cons, List.any_cons, List.any_nil, h1, h2, o1, o2]
  exact w_ok.mpr q
theorem mergeD_snoc (k v : D) : ∀ (l kvs : List (D × D)), mergeD kvs (l ++ [(k, v)]) = putD k v (mergeD kvs l)
  | [], _ => rfl
  | (a, b) :: r, kvs => mergeD_snoc k v r (putD a b kvs)
/-- {k: v for i in it}, turn by turn alike -/
theorem e_dmap (h : WG (evI O it s) (fun xs s1 => ∃ (x0 : Sl) (g : D → D × D), s1[i]? = some x0 ∧ isOwn (some x0) = false ∧ xs.length < sizeLine ∧ (∀ x ∈ xs, keyOk (g x).1 = true ∧ ∀ kvs : List (D × D), kvs.length < sizeLine → WG (evA O (.dic kx vx) (.dic kvs) ((s1.set i .emp).set i (.val x))) (fun acc s2 => acc = .dic (putD (g x).1 (g x).2 kvs) ∧ s2 = (s1.set i .emp).set i (.val x)) fun _ _ => False) ∧ P (.own (.dic (mergeD [] (xs.map g)))) s1) E) :
    WG (ev O (.gen [i] (.nm i) it .nil (.dic kx vx)) s) P E := by
  refine e_gen (h.mono (fun xs s1 h => ?_) fun _ _ z => z)
  obtain ⟨x0, g, hs, hx, l, turn, q⟩ := h
  have hi := (List.getElem?_eq_some_iff.mp hs).1
  refine ⟨by simp [tgIn], w_wipe1 hs hx ?_⟩
  have se : (s1.set i .emp)[i]? = some .emp := List.getElem?_set_self hi
  refine wp_compO (fun k acc s => acc = .dic (mergeD [] ((xs.take k).map g)) ∧ s = s1.set i .emp) (fun k x acc s hk ⟨ea, es⟩ => ?_) (fun acc s ⟨ea, es⟩ => ?_) ⟨by rw [List.take_zero]; rfl, rfl⟩
  · subst ea es
    have lt := (List.getElem?_eq_some_iff.mp hk).1
    have ml := mergeD_len ((xs.take k).map g) []
    rw [List.length_map, List.length_take, List.length_nil] at ml
    refine bind_nm se rfl <| t_nil <| ((turn x (List.mem_of_getElem? hk)).2 _ (by omega)).mono (fun acc s2 ⟨ed, e2⟩ => ?_) fun _ _ z => z.elim
    subst ed e2
    refine w_wipe1 (List.getElem?_set_self (by rw [List.length_set]; exact hi)) rfl ⟨?_, ?_⟩
    · rw [List.take_add_one, hk, List.map_append]
      exact congrArg Ob.dic (mergeD_snoc _ _ _ _).symm
    · rw [List.set_set]
      exact set_same se
  · subst ea es
    rw [List.take_length]
    have : backS s1 (s1.set i .emp) [i] = s1 := by
      show (s1.set i .emp).set i ((s1[i]?).getD .emp) = s1
      rw [List.set_set, hs]
      exact set_same hs
    rw [this]
    exact q
end
theorem idx0 (z : D) (r : List D) : idxD (.tuple (z :: r)) (.int 0) = some z := L2.atI_nat (xs := z :: r) (j := 0) (v := z) rfl
def Net.endNames (n : Net) : List Str := n.regs.map (·.name) ++ n.outs.map (·.1)
theorem tail2 (n : Net) : slcD n.toD (some 2) none = some (.d (.tuple [.tuple (n.regs.map Reg.toD), .tuple (n.outs.map outD)])) := rfl
section
variable {p : Prog}
theorem r_ends_of (A : Has p) (k : Nat) (n : Net) (h : Small n) {P : RV → Option Ob → Prop} {E : Xn → Option Ob → Prop} (q : P (.d (.tuple (strL (Net.endNames n)))) none) :
    wpR (run p (k + 1) "ends_of" [.d n.toD]) P E := by
  refine wp_run A.f_ends_of rfl fun O hΦ hG hΛ => ?_
  show WG (exB O k_ends_of [.val n.toD, .emp, .emp]) _ _
  unfold k_ends_of q_ends_of_0
  have h1 := h.o
  have h2 := h.r
  -- one row of things
  have row : ∀ (xs : List D) (zs ys : List D) (x : D), (∀ y ∈ xs, ∃ z r, y = .tuple (z :: r)) → xs.length ≤ 100 → ys.length ≤ 100 → x = .tuple xs → WG (evA O (.into [2] (.nm 2) (.v (.var 1)) .nil (.lst (.idx (.var 2) (.con (.int (0)))))) (.lst ys) [.val n.toD, .val x, .emp]) (fun acc s => acc = .lst (ys ++ xs.map hdD) ∧ s = [.val n.toD, .val x, .emp]) (fun _ _ => False) := by
    intro xs zs ys x hx lx ly ex
    subst ex
    refine a_into <| i_v <| (e_val rfl).mpr <| w_frzd ⟨xs, rfl, rfl, w_wipe1 (x := .emp) rfl rfl ?_⟩
    refine wp_compO (fun j acc s => acc = .lst (ys ++ (xs.take j).map hdD) ∧ s = [.val n.toD, .val (.tuple xs), .emp]) (fun j y acc s hj ⟨ea, es⟩ => ?_) (fun acc s ⟨ea, es⟩ => ?_) ⟨by rw [List.take_zero]; simp, rfl⟩
    · subst ea es
      obtain ⟨z, r, rfl⟩ := hx y (List.mem_of_getElem? hj)
      have l1 : ((xs.take j).map hdD).length ≤ 100 := by rw [List.length_map, List.length_take]; omega
      refine bind_nm (x := .emp) rfl rfl <| t_nil <| a_lst <| e_idx.mpr <| (e_val rfl).mpr <| e_con.mpr ⟨_, _, rfl, rfl, z, idx0 z r, w_frzd ⟨by rw [List.length_append, sl16]; omega, w_wipe1 (x := .val (.tuple (z :: r))) rfl rfl ⟨?_, rfl⟩⟩⟩
      rw [List.take_add_one, hj, List.map_append, List.append_assoc]
      rfl
    · subst ea es
      rw [List.take_length]
      exact ⟨rfl, rfl⟩
  refine b_cons.mpr <| s_ret.mpr <| e_bi.mpr <| e_cons.mpr <| e_gen <| i_v <| e_slc <| (e_val rfl).mpr <| e_cons.mpr <| e_con.mpr <| e_nil.mpr ⟨_, rfl, e_nil.mpr ⟨_, none, _, rfl, rfl, tail2 n, w_frzd ⟨[.tuple (n.regs.map Reg.toD), .tuple (n.outs.map outD)], rfl, rfl, w_wipe2 (x := .emp) (y := .emp) rfl rfl rfl rfl ?_⟩⟩⟩
  refine wp_compO (fun j acc s => s = [.val n.toD, .emp, .emp] ∧ ((j = 0 ∧ acc = .lst []) ∨ (j = 1 ∧ acc = .lst ((n.regs.map Reg.toD).map hdD)) ∨ (j = 2 ∧ acc = .lst ((n.regs.map Reg.toD).map hdD ++ (n.outs.map outD).map hdD)))) (fun j x acc s hj ⟨es, ea⟩ => ?_) (fun acc s ⟨es, ea⟩ => ?_) ⟨rfl, .inl ⟨rfl, rfl⟩⟩
  · subst es
    rcases ea with ⟨rfl, rfl⟩ | ⟨rfl, rfl⟩ | ⟨rfl, rfl⟩
    · cases hj
      refine bind_nm (x := .emp) rfl rfl <| t_nil <| (row (n.regs.map Reg.toD) [] [] _ (fun y hy => ?_) (by rw [List.length_map]; omega) (by simp) rfl).mono (fun acc s ⟨e1, e2⟩ => ?_) fun _ _ z => z.elim
      · obtain ⟨r, _, rfl⟩ := List.mem_map.mp hy
        exact ⟨_, _, rfl⟩
      · subst e1 e2
        exact w_wipe2 (x := .val _) (y := .emp) rfl rfl rfl rfl ⟨rfl, .inr (.inl ⟨rfl, rfl⟩)⟩
    · cases hj
      refine bind_nm (x := .emp) rfl rfl <| t_nil <| (row (n.outs.map outD) [] _ _ (fun y hy => ?_) (by rw [List.length_map]; omega) (by rw [List.length_map, List.length_map]; omega) rfl).mono (fun acc s ⟨e1, e2⟩ => ?_) fun _ _ z => z.elim
      · obtain ⟨r, _, rfl⟩ := List.mem_map.mp hy
        exact ⟨_, _, rfl⟩
      · subst e1 e2
        exact w_wipe2 (x := .val _) (y := .emp) rfl rfl rfl rfl ⟨rfl, .inr (.inr ⟨rfl, rfl⟩)⟩
    · cases hj
  · subst es
    rcases ea with ⟨z, _⟩ | ⟨z, _⟩ | ⟨_, rfl⟩
    · cases z
    · cases z
    · refine e_nil.mpr ⟨.d (.tuple (strL (Net.endNames n))), ?_, w_retd q⟩
      rw [hd_regs, hd_outs]
      show biD "tuple" [.list (strL (n.regs.map (·.name)) ++ strL (n.outs.map (·.1)))] = _
      rw [show strL (n.regs.map (·.name)) ++ strL (n.outs.map (·.1)) = strL (Net.endNames n) from (List.map_append ..).symm]
      rfl
end
end KA

/-! KA3: corners, sums along a path. -/
namespace KA
open PySem GS ND
section
variable {O : Ora} {s : Ev} {P : RV → Ev → Prop} {E : Xn → Ev → Prop} {a b c e t : GS.CE} {it : CI} {i j : Nat}
/-- [e for i in it if t], turn by turn alike -/
theorem e_mapf (h : WG (evI O it s) (fun xs s1 => ∃ (x0 : Sl) (g : D → D) (f : D → Bool), s1[i]? = some x0 ∧ isOwn (some x0) = false ∧ xs.length ≤ sizeLine ∧ (∀ x ∈ xs, WG (ev O t ((s1.set i .emp).set i (.val x))) (fun v s' => v = .d (.bool (f x)) ∧ s' = (s1.set i .emp).set i (.val x)) (fun _ _ => False) ∧ (f x = true →
      WG (ev O e ((s1.set i .emp).set i (.val x))) (fun v s' => WG (frz v s') (fun d s2 => d = g x ∧ s2 = (s1.set i .emp).set i (.val x)) fun _ _ => False) fun _ _ => False)) ∧ P (.own (.lst ((xs.filter f).map g))) s1) E) : WG (ev O (.comp [i] (.nm i) it (.cons t .nil) e) s) P E := by
  refine e_comp (h.mono (fun xs s1 h => ?_) fun _ _ z => z)
  obtain ⟨x0, g, f, hs, hx, l, turn, q⟩ := h
  have hi := (List.getElem?_eq_some_iff.mp hs).1
  refine ⟨by simp [tgIn], w_wipe1 hs hx ?_⟩
  have se : (s1.set i .emp)[i]? = some .emp := List.getElem?_set_self hi
  have back : ∀ x, ((s1.set i .emp).set i (.val x)).set i .emp = s1.set i .emp := fun x => by
    rw [List.set_set]
    exact set_same se
  refine wp_comp (fun k acc s => acc = ((xs.take k).filter f).map g ∧ s = s1.set i .emp) (fun k x acc s hk ⟨ea, es⟩ => ?_) (fun acc s ⟨ea, es⟩ => ?_) ⟨by rw [List.take_zero]; rfl, rfl⟩
  · subst ea es
    have lt := (List.getElem?_eq_some_iff.mp hk).1
    have tk : xs.take (k + 1) = xs.take k ++ [x] := by rw [List.take_add_one, hk]; rfl
    obtain ⟨t1, t2⟩ := turn x (List.mem_of_getElem? hk)
    refine bind_nm se rfl <| t_one <| t1.mono (fun v s' ⟨ev, es⟩ => ?_) fun _ _ z => z.elim
    subst ev es
    refine ⟨f x, rfl, ?_⟩
    have at' : ((s1.set i .emp).set i (.val x))[i]? = some (.val x) := List.getElem?_set_self (by rw [List.length_set]; exact hi)
    cases hf : f x with
    | false =>
      refine w_wipe1 at' rfl ⟨?_, back x⟩
      rw [tk, List.filter_append, List.filter_cons, hf]
      simp
    | true =>
      refine WG_bind.mpr <| (t2 hf).mono (fun v s' h => h.mono (fun d s2 ⟨ed, e2⟩ => ?_) fun _ _ z => z.elim) fun _ _ z => z.elim
      subst ed e2
      refine ⟨?_, w_wipe1 at' rfl ⟨?_, back x⟩⟩
      · rw [List.length_map]
        have := List.length_filter_le f (xs.take k)
        rw [List.length_take] at this
        omega
      · rw [tk, List.filter_append, List.filter_cons, hf, List.map_append]
        rfl
  · subst ea es
    rw [List.take_length]
    have : backS s1 (s1.set i .emp) [i] = s1 := by
      show (s1.set i .emp).set i ((s1[i]?).getD .emp) = s1
      rw [List.set_set, hs]
      exact set_same hs
    rw [this]
    exact q
theorem bind_two {x y : D} {u v : Sl} {QU : Unit → Ev → Prop} (hi : s[i]? = some u) (iu : isIo (some u) = false) (hj : (s.set i (.val x))[j]? = some v) (iv : isIo (some v) = false) (q : QU () ((s.set i (.val x)).set j (.val y))) : WG (bindT (.tup [i, j]) (.tuple [x, y]) s) QU E := by
  show WG ((putS i (.val x) s).bind fun _ s => (putS j (.val y) s).bind fun _ s => .ok () s) QU E
  unfold putS
  rw [hi, iu, decide_eq_true (List.getElem?_eq_some_iff.mp hi).1]
  show WG ((if decide (j < (s.set i (.val x)).length) && !isIo (s.set i (.val x))[j]? then Rs.ok () ((s.set i (.val x)).set j (.val y)) else .stuck).bind fun _ s => .ok () s) QU E
  rw [hj, iv, decide_eq_true (List.getElem?_eq_some_iff.mp hj).1]
  exact w_ok.mpr q
end
theorem ne_unit {xs : List D} (h : plainA xs = true) : cmpD .NotEq (.tuple xs) (.tuple []) = some (!xs.isEmpty) := by
  show (eqD (.tuple xs) (.tuple [])).map not = _
  have e : eqD (.tuple xs) (.tuple []) = some xs.isEmpty := by
    unfold eqD
    rw [if_pos]
    · have : PyData.eqv (.tuple xs) (.tuple []) = xs.isEmpty := by cases xs <;> rfl
      rw [this]
    · rw [Bool.and_eq_true, Bool.and_eq_true, decide_eq_true_eq]
      refine ⟨⟨h, rfl⟩, Nat.le_trans (Nat.min_le_right _ _) ?_⟩
      show (PyData.tuple []).depth ≤ 64
      decide
  rw [e]
  rfl
def corners (n : Net) : Nat := match n.gates with
  | [] => 1
  | g :: _ => g.dl.length
theorem net_dl {n : Net} {m : Nat} (h : n.Ok m) : ∀ g ∈ n.gates, g.dl.length = corners n ∧ ∀ q ∈ g.dl, Pair q := by
  obtain ⟨c, ord, c1, c3, pm, rk, _⟩ := h.order
  have all : ∀ g ∈ n.gates, g.dl.length = c ∧ ∀ q ∈ g.dl, Pair q := fun g hg => by
    obtain ⟨a, b, e⟩ := List.append_of_mem (pm.mem_iff.mpr hg)
    have := rk a b g e
    exact ⟨this.dls, this.pairs⟩
  intro g hg
  refine ⟨?_, (all g hg).2⟩
  unfold corners
  cases hn : n.gates with
  | nil => rw [hn] at hg; cases hg
  | cons g0 r => exact ((all g hg).1).trans (all g0 (by rw [hn]; exact List.mem_cons_self)).1.symm
theorem corners_le {n : Net} {m : Nat} (h : n.Ok m) : 1 ≤ corners n ∧ corners n ≤ 3 := by
  obtain ⟨c, ord, c1, c3, pm, rk, _⟩ := h.order
  unfold corners
  cases hn : n.gates with
  | nil => exact ⟨by decide, by decide⟩
  | cons g r =>
    have hg : g ∈ ord := pm.mem_iff.mpr (by rw [hn]; exact List.mem_cons_self)
    obtain ⟨a, b, e⟩ := List.append_of_mem hg
    have := (rk a b g e).dls
    show 1 ≤ g.dl.length ∧ g.dl.length ≤ 3
    omega
section
variable {p : Prog}
theorem x_corners {O : Ora} (n : Net) {Q : Fl → Ev → Prop} {E : Xn → Ev → Prop} (q : Q (.ret (.d (.int (corners n)))) [.val n.toD]) : WG (exB O k_corners_of [.val n.toD]) Q E := by
  unfold k_corners_of
  refine b_cons.mpr <| s_ret.mpr <| e_ite.mpr <| e_cmp.mpr <| e_idx.mpr <| (e_val rfl).mpr <| e_con.mpr ⟨_, _, rfl, rfl, _, i_gates n, e_tup.mpr <| e_nil.mpr <| w_frzL (ds := []) ⟨Nat.zero_le _, _, _, rfl, rfl, _, ne_unit (plain_gates _), _, rfl, ?_⟩⟩
  unfold corners at q
  cases hn : n.gates with
  | nil =>
    rw [hn] at q
    exact e_con.mpr <| w_retd q
  | cons g r =>
    rw [hn] at q
    refine e_bi.mpr <| e_cons.mpr <| e_idx.mpr <| e_idx.mpr <| e_idx.mpr <| (e_val rfl).mpr <| e_con.mpr ⟨_, _, rfl, rfl, _, i_gates n, e_con.mpr ⟨_, _, rfl, rfl, g.toD, by rw [hn]; exact idx0 _ _, e_con.mpr ⟨_, _, rfl, rfl, .tuple (g.dl.map pairD), rfl, e_nil.mpr ⟨.d (.int (g.dl.map pairD).length), rfl, w_retd ?_⟩⟩⟩⟩
    rw [List.length_map]
    exact q
theorem r_corners_of (A : Has p) (k : Nat) (n : Net) {P : RV → Option Ob → Prop} {E : Xn → Option Ob → Prop} (q : P (.d (.int (corners n))) none) : wpR (run p (k + 1) "corners_of" [.d n.toD]) P E :=
  wp_run A.f_corners_of rfl fun O _ _ _ => x_corners n q
theorem r_law_corners (A : Has p) (k : Nat) (n : Net) {P : RV → Option Ob → Prop} {E : Xn → Option Ob → Prop} (q : P (.d (.int (corners n))) none) : wpR (run p (k + 1) "_law_corners" [.d n.toD]) P E :=
  wp_run A.f_law_corners rfl fun O _ _ _ => x_corners n q
theorem r_need_corner (A : Has p) (k : Nat) (n : Net) (c : Nat) (hc : c < corners n) {P : RV → Option Ob → Prop} {E : Xn → Option Ob → Prop} (q : P (.d .none) none) : wpR (run p (k + 3) "need_corner" [.d n.toD, .d (.int c)]) P E := by
  refine wp_run A.f_need_corner rfl fun O hΦ hG hΛ => ?_
  show WG (exB O k_need_corner [.val n.toD, .val (.int c)]) _ _
  unfold k_need_corner
  refine b_cons.mpr <| s_ife.mpr <| e_not.mpr <| e_call <| e_cons.mpr <| (e_val rfl).mpr <| e_cons.mpr <| (e_val rfl).mpr <| e_nil.mpr ⟨[.d n.toD, .d (.int c)], rfl, ?_⟩
  rw [hΦ]
  refine wp_run A.f_is_corner rfl fun O hΦ hG hΛ => ?_
  show WG (exB O k_is_corner [.val n.toD, .val (.int c)]) _ _
  unfold k_is_corner
  refine b_cons.mpr <| s_ret.mpr <| e_call <| e_cons.mpr <| (e_val rfl).mpr <| e_cons.mpr <| e_bin.mpr <| e_call <| e_cons.mpr <| (e_val rfl).mpr <| e_nil.mpr ⟨[.d n.toD], rfl, ?_⟩
  rw [hΦ]
  refine r_corners_of A k n ⟨_, rfl, e_con.mpr ⟨_, _, rfl, rfl, _, rfl, e_nil.mpr ⟨[.d (.int c), .d (.int 0), .d (.int ((corners n : Int) - 1))], rfl, ?_⟩⟩⟩
  refine r_is_whole A k c 0 ((corners n : Int) - 1) ⟨by omega, by omega⟩ ⟨_, rfl, w_retd ⟨_, rfl, true, rfl, false, rfl, b_nil.mpr (b_nil.mpr q)⟩⟩
/-! ### sums -/
def inner (w : List Str) : List Str := (w.drop 1).take (w.length - 2)
theorem cut_inner (w : List Str) (h : 1 ≤ w.length) : slcD (.tuple (strL w)) (some 1) (some (-1)) = some (.d (.tuple (strL (inner w)))) := by
  have l : (strL w).length = w.length := List.length_map ..
  show some (RV.d (.tuple (((strL w).drop (min (1 : Int).toNat (strL w).length)).take (((-1 : Int) + ((strL w).length : Int)).toNat - min (1 : Int).toNat (strL w).length)))) = _
  rw [l, show min (1 : Int).toNat w.length = 1 from Nat.min_eq_left h, show ((-1 : Int) + (w.length : Int)).toNat - 1 = w.length - 2 by omega, strL, ← List.map_drop, ← List.map_take]
  rfl
def pairsOn (n : Net) (w : List Str) (c : Nat) : List (Int × Int) := (n.gates.filter fun g => decide (g.name ∈ inner w)).map fun g => g.dl.getD c (0, 0)
def sumsOn (n : Net) (w : List Str) (c : Nat) : Int × Int := (((pairsOn n w c).map (·.1)).sum, ((pairsOn n w c).map (·.2)).sum)
theorem in_tup (x : Str) (ns : List Str) : isIn (.str x) (.tuple (strL ns)) = some (decide (x ∈ ns)) := in_strs x ns
theorem dl_at (g : Gate) (c : Nat) (h : c < g.dl.length) : idxD (.tuple (g.dl.map pairD)) (.int c) = some (pairD (g.dl.getD c (0, 0))) := by
  refine L2.atI_nat ?_
  rw [List.getElem?_map, List.getD_eq_getElem?_getD, List.getElem?_eq_getElem h]
  rfl
/-- a gate of a datum -/
def gName (x : D) : Str := unS (hdD x)
theorem x_sums {O : Ora} (n : Net) (w : List Str) (c : Nat) (hw : 1 ≤ w.length) (sm : Small n) (hc : ∀ g ∈ n.gates, c < g.dl.length) {Q : Fl → Ev → Prop} {E : Xn → Ev → Prop} (q : ∀ s, Q (.ret (.d (pairD (sumsOn n w c)))) s) :
    WG (exB O k_sums_along [.val n.toD, .val (.tuple (strL w)), .val (.int c), .emp, .emp, .emp, .emp]) Q E := by
  have hg := sm.g
  unfold k_sums_along q_sums_along_0
  refine b_cons.mpr <| s_set.mpr <| e_mapf <| i_v <| e_idx.mpr <| (e_val rfl).mpr <| e_con.mpr ⟨_, _, rfl, rfl, _, i_gates n, w_frzd ⟨n.gates.map Gate.toD, rfl, .emp, fun x => (idxD ((idxD x (.int 3)).getD .none) (.int c)).getD .none, fun x => decide (gName x ∈ inner w), rfl, rfl, by rw [List.length_map, sl16]; omega, fun x hx => ?_, ?_⟩⟩
  · obtain ⟨g, hg, rfl⟩ := List.mem_map.mp hx
    refine ⟨e_cmp.mpr <| e_idx.mpr <| (e_val rfl).mpr <| e_con.mpr ⟨_, _, rfl, rfl, .str g.name, rfl, e_slc <| (e_val rfl).mpr <| e_cons.mpr <| e_con.mpr <| e_nil.mpr ⟨_, rfl, e_cons.mpr <| e_neg <| e_con.mpr ⟨1, rfl, e_nil.mpr ⟨_, _, _, rfl, rfl, cut_inner w hw, _, _, rfl, rfl, _, in_tup _ _, rfl, rfl⟩⟩⟩⟩, fun _ => ?_⟩
    have e : idxD (.tuple (g.dl.map pairD)) (.int c) = some (pairD (g.dl.getD c (0, 0))) := dl_at g c (hc g hg)
    refine e_idx.mpr <| e_idx.mpr <| (e_val rfl).mpr <| e_con.mpr ⟨_, _, rfl, rfl, .tuple (g.dl.map pairD), rfl, (e_val rfl).mpr ⟨_, _, rfl, rfl, _, e, w_frzd ⟨?_, rfl⟩⟩⟩
    show _ = (idxD (.tuple (g.dl.map pairD)) (.int c)).getD .none
    rw [e]
    rfl
  · have ep : ((n.gates.map Gate.toD).filter fun x => decide (gName x ∈ inner w)).map (fun x => (idxD ((idxD x (.int 3)).getD .none) (.int c)).getD .none) = (pairsOn n w c).map pairD := by
      unfold pairsOn
      rw [List.filter_map, List.map_map, List.map_map]
      apply List.map_congr_left
      intro g hg
      have hg := (List.mem_filter.mp hg).1
      show (idxD (.tuple (g.dl.map pairD)) (.int c)).getD .none = _
      rw [dl_at g c (hc g hg)]
      rfl
    rw [ep]
    have lp : (pairsOn n w c).length ≤ 30 := by
      unfold pairsOn
      rw [List.length_map]
      exact Nat.le_trans (List.length_filter_le ..) hg
    generalize hps : pairsOn n w c = ps at lp
    refine put_o (x := .emp) rfl rfl ?_
    -- a sum of one side
    have side : ∀ (f : Int × Int → Int) (v : Nat) (y : D → D → D) (x3 : Sl), LSl x3 (ps.map pairD) → (∀ q : Int × Int, WG (ev O (.var v) [.val n.toD, .val (.tuple (strL w)), .val (.int c), .val (.list (ps.map pairD)), .emp, .val (.int q.1), .val (.int q.2)]) (fun v s => v = .d (.int (f q)) ∧ s = [.val n.toD, .val (.tuple (strL w)), .val (.int c), .val (.list (ps.map pairD)), .emp, .val (.int q.1), .val (.int q.2)]) (fun _ _ => False)) →
        WG (ev O (.comp [5, 6] (.tup [5, 6]) (.v (.var 3)) .nil (.var v)) [.val n.toD, .val (.tuple (strL w)), .val (.int c), x3, .emp, .emp, .emp]) (fun v s => v = .own (.lst ((ps.map f).map PyData.int)) ∧ s = [.val n.toD, .val (.tuple (strL w)), .val (.int c), .val (.list (ps.map pairD)), .emp, .emp, .emp]) E := by
      intro f v y x3 l3 hv
      refine e_comp <| i_lv rfl l3 ⟨rfl, w_wipe2 (x := .emp) (y := .emp) rfl rfl rfl rfl ?_⟩
      refine wp_comp (fun j acc s => acc = ((ps.take j).map f).map PyData.int ∧ s = [.val n.toD, .val (.tuple (strL w)), .val (.int c), .val (.list (ps.map pairD)), .emp, .emp, .emp]) (fun j x acc s hj ⟨ea, es⟩ => ?_) (fun acc s ⟨ea, es⟩ => ?_) ⟨by rw [List.take_zero]; rfl, rfl⟩
      · subst ea es
        have lt : j < ps.length := by
          have := (List.getElem?_eq_some_iff.mp hj).1
          rw [List.length_map] at this
          exact this
        have ex : x = pairD ps[j] := by
          rw [List.getElem?_map, List.getElem?_eq_getElem lt] at hj
          cases hj
          rfl
        subst ex
        refine bind_two (u := .emp) (v := .emp) rfl rfl rfl rfl <| t_nil <| WG_bind.mpr <| (hv ps[j]).mono (fun v s ⟨e1, e2⟩ => ?_) fun _ _ z => z
        subst e1 e2
        refine w_frzd ⟨by rw [List.length_map, List.length_map, List.length_take, sl16]; omega, w_wipe2 (x := .val _) (y := .val _) rfl rfl rfl rfl ⟨?_, rfl⟩⟩
        rw [List.take_add_one, List.getElem?_eq_getElem lt, List.map_append, List.map_append]
        rfl
      · subst ea es
        rw [List.length_map, List.take_length]
        exact ⟨rfl, rfl⟩
    unfold q_sums_along_1 q_sums_along_2
    refine b_cons.mpr <| s_ret.mpr <| e_tup.mpr <| e_cons.mpr <| e_bi.mpr <| e_cons.mpr <| (side (·.1) 5 (fun x _ => x) _ (.inl rfl) fun q => (e_val rfl).mpr ⟨rfl, rfl⟩).mono (fun v s ⟨e1, e2⟩ => ?_) fun _ _ z => z
    subst e1 e2
    refine e_nil.mpr ⟨_, b_sum, e_cons.mpr <| e_bi.mpr <| e_cons.mpr <| (side (·.2) 6 (fun x _ => x) _ (.inr rfl) fun q => (e_val rfl).mpr ⟨rfl, rfl⟩).mono (fun v s ⟨e1, e2⟩ => ?_) fun _ _ z => z⟩
    subst e1 e2
    refine e_nil.mpr ⟨_, b_sum, e_nil.mpr <| w_frzL (ds := [.int (ps.map fun q : Int × Int => q.1).sum, .int (ps.map fun q : Int × Int => q.2).sum]) ⟨two_le, w_retd ?_⟩⟩
    have := q [.val n.toD, .val (.tuple (strL w)), .val (.int c), .val (.list (ps.map pairD)), .emp, .emp, .emp]
    unfold sumsOn at this
    rw [hps] at this
    exact this
theorem r_sums_along (A : Has p) (k : Nat) (n : Net) (w : List Str) (c : Nat) (hw : 1 ≤ w.length) (sm : Small n) (hc : ∀ g ∈ n.gates, c < g.dl.length) {P : RV → Option Ob → Prop} {E : Xn → Option Ob → Prop} (q : P (.d (pairD (sumsOn n w c))) none) :
    wpR (run p (k + 1) "sums_along" [.d n.toD, .d (.tuple (strL w)), .d (.int c)]) P E :=
  wp_run A.f_sums_along rfl fun O _ _ _ => x_sums n w c hw sm hc fun _ => q
theorem r_law_sums (A : Has p) (k : Nat) (n : Net) (w : List Str) (c : Nat) (hw : 1 ≤ w.length) (sm : Small n) (hc : ∀ g ∈ n.gates, c < g.dl.length) {P : RV → Option Ob → Prop} {E : Xn → Option Ob → Prop} (q : P (.d (pairD (sumsOn n w c))) none) :
    wpR (run p (k + 1) "_law_sums" [.d n.toD, .d (.tuple (strL w)), .d (.int c)]) P E :=
  wp_run A.f_law_sums rfl fun O _ _ _ => x_sums n w c hw sm hc fun _ => q
end
end KA

/-! KA4: clocks, ends on their sides. -/
namespace KA
open PySem GS ND
structure Clk where
  beat : Int
  sk : List Int
def Clk.toD (c : Clk) : D := .tuple [.int c.beat, .tuple (c.sk.map PyData.int)]
structure Clk.Ok (c : Clk) (n : Net) : Prop where
  b1 : 1 ≤ c.beat
  b2 : c.beat ≤ 99999
  len : c.sk.length = n.regs.length
  sk : ∀ x ∈ c.sk, -999 ≤ x ∧ x ≤ 999
theorem ne_int (a b : Int) : cmpD .NotEq (.int a) (.int b) = some (!decide (a = b)) := by
  show (eqD (.int a) (.int b)).map not = _
  have : eqD (.int a) (.int b) = some (decide (a = b)) := eq_int a b
  rw [this]
  rfl
section
variable {p : Prog}
theorem r_clock (N : ND.Has p) (A : Has p) (k : Nat) (d : Dr) (b : Int) (h : d.Ok b) (hb : b + 1000 < 2 ^ 38) (n : Net) (sm : Small n) {P : RV → Option Ob → Prop} {E : Xn → Option Ob → Prop} (q : ∀ (c : Clk) (d' : Dr), c.Ok n → d'.Ok (b + 20) → P (.d c.toD) (some d'.ob)) :
    wpR (run p (k + 3) "_law_clock" [.io d.ob, .d n.toD]) P E := by
  refine wp_run A.f_law_clock rfl fun O hΦ hG hΛ => ?_
  have Dw := draws N hΦ
  have hr := sm.r
  show WG (exB O k_law_clock [.io d.ob, .val n.toD, .emp, .emp, .emp]) _ _
  unfold k_law_clock
  refine b_cons.mpr <| s_set.mpr <| w_pick Dw <| e_cons.mpr <| e_bin.mpr <| e_con.mpr <| w_nextc Dw rfl h (by omega) (by decide) (by decide) fun v1 d1 v10 v11 h1 => ⟨_, _, rfl, rfl, _, rfl, e_cons.mpr <| e_bin.mpr <| e_con.mpr <| w_nextc Dw rfl h1 (by omega) (by decide) (by decide) fun v2 d2 v20 v21 h2 => ⟨_, _, rfl, rfl, _, rfl,
    e_cons.mpr <| e_con.mpr <| e_nil.mpr ⟨[.int (1 + v1), .int (1 + v2), .int 99999], d2, _, rfl, rfl, by decide, by decide, rfl, h2, by omega, fun r hr d3 h3 => ?_⟩⟩⟩
  obtain ⟨bt, rfl, bt0, bt9⟩ : ∃ i : Int, r = .int i ∧ 1 ≤ i ∧ i ≤ 99999 := by
    simp only [List.mem_cons, List.not_mem_nil, or_false] at hr
    rcases hr with rfl | rfl | rfl
    · exact ⟨_, rfl, by omega, by omega⟩
    · exact ⟨_, rfl, by omega, by omega⟩
    · exact ⟨_, rfl, by omega, by omega⟩
  refine put_v (x := .emp) rfl rfl ?_
  unfold q_law_clock_0
  refine b_cons.mpr <| s_set.mpr <| e_comp <| i_v <| e_idx.mpr <| (e_val rfl).mpr <| e_con.mpr ⟨_, _, rfl, rfl, _, i_regs n, w_frzd ⟨n.regs.map Reg.toD, rfl, rfl, w_wipe1 (x := .emp) rfl rfl ?_⟩⟩
  refine wp_comp (fun j acc s => ∃ (sk : List Int) (d4 : Dr), acc = sk.map PyData.int ∧ s = [.io d4.ob, .val n.toD, .val (.int bt), .emp, .emp] ∧ sk.length = j ∧ (∀ x ∈ sk, -999 ≤ x ∧ x ≤ 999) ∧ d4.Ok (b + 3 + 4 * j)) (fun j x acc s hj ⟨sk, d4, ea, es, l, w, h4⟩ => ?_) (fun acc s ⟨sk, d4, ea, es, l, w, h4⟩ => ?_) ⟨[], d3, rfl, rfl, rfl, (fun _ z => nomatch z), h3.mono (by omega)⟩
  · subst ea es
    have lt := (List.getElem?_eq_some_iff.mp hj).1
    rw [List.length_map] at lt
    refine bind_nm (x := .emp) rfl rfl <| t_nil <| WG_bind.mpr <| w_pick Dw <| e_cons.mpr <| e_bin.mpr <| w_nextc Dw rfl h4 (by omega) (by decide) (by decide) fun v1 d5 v10 v11 h5 => e_con.mpr ⟨_, _, rfl, rfl, _, rfl, e_cons.mpr <| e_bin.mpr <| w_nextc Dw rfl h5 (by omega) (by decide) (by decide) fun v2 d6 v20 v21 h6 => e_con.mpr ⟨_, _, rfl, rfl, _, rfl,
      e_cons.mpr <| e_con.mpr <| e_nil.mpr ⟨[.int (v1 - 9), .int (v2 - 999), .int 0], d6, _, rfl, rfl, by decide, by decide, rfl, h6, by omega, fun r hr d7 h7 => ?_⟩⟩⟩
    obtain ⟨y, rfl, y0, y9⟩ : ∃ i : Int, r = .int i ∧ -999 ≤ i ∧ i ≤ 999 := by
      simp only [List.mem_cons, List.not_mem_nil, or_false] at hr
      rcases hr with rfl | rfl | rfl
      · exact ⟨_, rfl, by omega, by omega⟩
      · exact ⟨_, rfl, by omega, by omega⟩
      · exact ⟨_, rfl, by omega, by omega⟩
    refine w_frzd ⟨by rw [List.length_map, sl16]; omega, w_wipe1 (x := .val x) rfl rfl ⟨sk ++ [y], d7, by rw [List.map_append]; rfl, rfl, by rw [List.length_append, l]; rfl, fun z hz => ?_, h7.mono (by omega)⟩⟩
    rcases List.mem_append.mp hz with hz | hz
    · exact w z hz
    · rw [List.mem_singleton.mp hz]; exact ⟨y0, y9⟩
  · subst ea es
    rw [List.length_map] at l h4
    refine put_o (x := .emp) rfl rfl <| b_cons.mpr <| s_ret.mpr <| e_tup.mpr <| e_cons.mpr <| (e_val rfl).mpr <| e_cons.mpr <| e_bi.mpr <| e_cons.mpr <| (e_own rfl).mpr <| e_nil.mpr ⟨.d (.tuple (sk.map PyData.int)), rfl, e_nil.mpr <| w_frzL (ds := [.int bt, .tuple (sk.map PyData.int)]) ⟨two_le, w_retd ?_⟩⟩
    exact q ⟨bt, sk⟩ d4 ⟨bt0, bt9, l, w⟩ (h4.mono (by omega))
theorem r_are_skews (A : Has p) (C : Con p) (k : Nat) (n : Net) (c : Clk) (h : c.Ok n) (sm : Small n) {P : RV → Option Ob → Prop} {E : Xn → Option Ob → Prop} (q : P (.d (.bool true)) none) : wpR (run p (k + 2) "are_skews" [.d n.toD, .d (.tuple (c.sk.map PyData.int))]) P E := by
  refine wp_run A.f_are_skews rfl fun O hΦ hG hΛ => ?_
  have hr := sm.r
  have hl := h.len
  show WG (exB O k_are_skews [.val n.toD, .val (.tuple (c.sk.map PyData.int)), .emp]) _ _
  unfold k_are_skews
  refine b_cons.mpr <| s_ife.mpr <| e_or.mpr <| e_not.mpr <| e_isi.mpr <| (e_val rfl).mpr ⟨true, rfl, true, rfl, false, rfl, e_cmp.mpr <| e_bi.mpr <| e_cons.mpr <| (e_val rfl).mpr <| e_nil.mpr ⟨.d (.int (c.sk.map PyData.int).length), rfl, e_bi.mpr <| e_cons.mpr <| e_idx.mpr <| (e_val rfl).mpr <| e_con.mpr ⟨_, _, rfl, rfl, _, i_regs n, e_nil.mpr ⟨.d (.int (n.regs.map Reg.toD).length), rfl, _, _, rfl, rfl, _, ne_int _ _, false, ?_, b_nil.mpr ?_⟩⟩⟩⟩
  · rw [List.length_map, List.length_map, hl, decide_eq_true rfl]
    rfl
  unfold q_are_skews_0
  refine b_cons.mpr <| s_ret.mpr <| e_bi.mpr <| e_cons.mpr <| e_map <| i_v <| (e_val rfl).mpr <| w_frzd ⟨c.sk.map PyData.int, rfl, .emp, fun _ => .bool true, rfl, rfl, by rw [List.length_map, sl16]; omega, fun x hx => ?_, ?_⟩
  · obtain ⟨y, hy, rfl⟩ := List.mem_map.mp hx
    obtain ⟨y1, y2⟩ := h.sk y hy
    refine e_call <| e_cons.mpr <| (e_val rfl).mpr <| e_cons.mpr <| e_neg <| e_glob.mpr ⟨.int 9999, by rw [hG]; exact C.ms, 9999, rfl, e_cons.mpr <| e_glob.mpr ⟨.int 9999, by rw [hG]; exact C.ms, e_nil.mpr ⟨[.d (.int y), .d (.int (-9999)), .d (.int 9999)], rfl, ?_⟩⟩⟩
    rw [hΦ]
    exact r_is_whole A k y (-9999) 9999 ⟨by omega, by omega⟩ ⟨_, rfl, w_frzd ⟨rfl, rfl⟩⟩
  · have e : (c.sk.map PyData.int).map (fun _ => PyData.bool true) = (c.sk.map fun _ => true).map PyData.bool := by rw [List.map_map, List.map_map]; rfl
    rw [e]
    refine e_nil.mpr ⟨_, b_all _, w_retd ?_⟩
    have t : ((c.sk.map fun _ => true).all id) = true := by
      rw [List.all_eq_true]
      intro b hb
      obtain ⟨_, _, rfl⟩ := List.mem_map.mp hb
      rfl
    rw [t]
    exact q
theorem r_need_clock (A : Has p) (C : Con p) (k : Nat) (n : Net) (c : Clk) (h : c.Ok n) (sm : Small n) {P : RV → Option Ob → Prop} {E : Xn → Option Ob → Prop} (q : P (.d .none) none) : wpR (run p (k + 4) "need_clock" [.d n.toD, .d c.toD]) P E := by
  refine wp_run A.f_need_clock rfl fun O hΦ hG hΛ => ?_
  show WG (exB O k_need_clock [.val n.toD, .val c.toD]) _ _
  unfold k_need_clock
  refine b_cons.mpr <| s_ife.mpr <| e_not.mpr <| e_call <| e_cons.mpr <| (e_val rfl).mpr <| e_cons.mpr <| (e_val rfl).mpr <| e_nil.mpr ⟨[.d n.toD, .d c.toD], rfl, ?_⟩
  rw [hΦ]
  refine wp_run A.f_is_clock rfl fun O hΦ hG hΛ => ?_
  show WG (exB O k_is_clock [.val n.toD, .val c.toD]) _ _
  unfold k_is_clock
  refine b_cons.mpr <| s_ife.mpr <| e_or.mpr <| e_not.mpr <| e_isi.mpr <| (e_val rfl).mpr ⟨true, rfl, true, rfl, false, rfl, e_cmp.mpr <| e_bi.mpr <| e_cons.mpr <| (e_val rfl).mpr <| e_nil.mpr ⟨.d (.int 2), rfl, e_con.mpr ⟨_, _, rfl, rfl, _, ne_int _ _, false, rfl, b_nil.mpr ?_⟩⟩⟩
  refine b_cons.mpr <| s_ret.mpr <| e_and.mpr <| e_call <| e_cons.mpr <| e_idx.mpr <| (e_val rfl).mpr <| e_con.mpr ⟨_, _, rfl, rfl, .int c.beat, rfl, e_cons.mpr <| e_con.mpr <| e_cons.mpr <| e_glob.mpr ⟨.int 99999, by rw [hG]; exact C.mp, e_nil.mpr ⟨[.d (.int c.beat), .d (.int 1), .d (.int 99999)], rfl, ?_⟩⟩⟩
  rw [hΦ]
  refine r_is_whole A (k + 1) c.beat 1 99999 ⟨h.b1, h.b2⟩ ⟨_, rfl, true, rfl, e_call <| e_cons.mpr <| (e_val rfl).mpr <| e_cons.mpr <| e_idx.mpr <| (e_val rfl).mpr <| e_con.mpr ⟨_, _, rfl, rfl, .tuple (c.sk.map PyData.int), rfl, e_nil.mpr ⟨[.d n.toD, .d (.tuple (c.sk.map PyData.int))], rfl, ?_⟩⟩⟩
  rw [hΦ]
  exact r_are_skews A C k n c h sm ⟨_, rfl, w_retd ⟨_, rfl, true, rfl, false, rfl, b_nil.mpr (b_nil.mpr q)⟩⟩
/-- an end is checked on a side -/
def Fits (n : Net) (side e : Str) : Prop := (side = "late" ∧ e ∈ Net.endNames n) ∨ (side = "early" ∧ e ∈ n.regs.map (·.name))
theorem r_fits_end (A : Has p) (k : Nat) (n : Net) (sm : Small n) (side e : Str) (h : Fits n side e) {P : RV → Option Ob → Prop} {E : Xn → Option Ob → Prop} (q : P (.d (.bool true)) none) : wpR (run p (k + 2) "fits_end" [.d n.toD, .d (.str side), .d (.str e)]) P E := by
  refine wp_run A.f_fits_end rfl fun O hΦ hG hΛ => ?_
  have hr := sm.r
  show WG (exB O k_fits_end [.val n.toD, .val (.str side), .val (.str e), .emp]) _ _
  unfold k_fits_end
  refine b_cons.mpr <| s_ife.mpr <| e_or.mpr <| e_not.mpr <| e_isi.mpr <| (e_val rfl).mpr ⟨true, rfl, true, rfl, false, rfl, e_not.mpr <| e_isi.mpr <| (e_val rfl).mpr ⟨true, rfl, true, rfl, false, rfl, b_nil.mpr ?_⟩⟩
  refine b_cons.mpr <| s_ife.mpr <| e_cmp.mpr <| (e_val rfl).mpr <| e_con.mpr ⟨_, _, rfl, rfl, _, eq_str _ _, _, rfl, ?_⟩
  rcases h with ⟨rfl, h⟩ | ⟨rfl, h⟩
  · rw [decide_eq_true rfl]
    refine b_cons.mpr <| s_ret.mpr <| e_cmp.mpr <| (e_val rfl).mpr <| e_call <| e_cons.mpr <| (e_val rfl).mpr <| e_nil.mpr ⟨[.d n.toD], rfl, ?_⟩
    rw [hΦ]
    refine r_ends_of A k n sm ⟨_, rfl, _, _, rfl, rfl, _, in_tup _ _, w_retd ?_⟩
    rw [decide_eq_true h]
    exact q
  · rw [decide_eq_false (by decide)]
    unfold q_fits_end_0
    refine b_nil.mpr <| b_cons.mpr <| s_ret.mpr <| e_and.mpr <| e_cmp.mpr <| (e_val rfl).mpr <| e_con.mpr ⟨_, _, rfl, rfl, _, eq_str _ _, true, by rw [decide_eq_true rfl]; rfl, e_cmp.mpr <| (e_val rfl).mpr <| e_map <| i_v <| e_idx.mpr <| (e_val rfl).mpr <| e_con.mpr ⟨_, _, rfl, rfl, _, i_regs n, w_frzd ⟨n.regs.map Reg.toD, rfl, .emp, hdD, rfl, rfl, by rw [List.length_map, sl16]; omega, fun x hx => ?_, ?_⟩⟩⟩
    · obtain ⟨r, _, rfl⟩ := List.mem_map.mp hx
      exact e_idx.mpr <| (e_val rfl).mpr <| e_con.mpr ⟨_, _, rfl, rfl, .str r.name, rfl, w_frzd ⟨rfl, rfl⟩⟩
    · rw [hd_regs]
      refine ⟨_, _, rfl, rfl, _, in_strs _ _, w_retd ?_⟩
      rw [decide_eq_true h]
      exact q
end
end KA

/-! KA5: dicts with unlike texts for keys; what feeds what. -/
namespace KA
open PySem GS ND
/-- a dict of texts -/
def enc (l : List (Str × D)) : List (D × D) := l.map fun q => (.str q.1, q.2)
theorem enc_len (l : List (Str × D)) : (enc l).length = l.length := List.length_map ..
theorem enc_app (a b : List (Str × D)) : enc (a ++ b) = enc a ++ enc b := List.map_append ..
theorem put_new (k : Str) (v : D) (l : List (Str × D)) (h : k ∉ l.map (·.1)) : putD (.str k) v (enc l) = enc (l ++ [(k, v)]) := by
  have n : ¬ ((enc l).any fun p => keyEq p.1 (.str k)) = true := fun z => by
    obtain ⟨p, hp, e⟩ := List.any_eq_true.mp z
    obtain ⟨q, hq, rfl⟩ := List.mem_map.mp hp
    have e := (keyEq_str _ _).mp e
    cases e
    exact h (List.mem_map.mpr ⟨q, hq, rfl⟩)
  unfold putD
  rw [if_neg n, enc_app]
  rfl
theorem merge_enc : ∀ (l l0 : List (Str × D)), ((l0 ++ l).map (·.1)).Nodup → mergeD (enc l0) (enc l) = enc (l0 ++ l)
  | [], l0, _ => by rw [List.append_nil]; rfl
  | (k, v) :: r, l0, h => by
    have hk : k ∉ l0.map (·.1) := fun z => by
      rw [List.map_append, List.map_cons] at h
      exact (List.nodup_append.mp h).2.2 k z k List.mem_cons_self rfl
    have e : l0 ++ (k, v) :: r = (l0 ++ [(k, v)]) ++ r := by simp
    show mergeD (putD (.str k) v (enc l0)) (enc r) = _
    rw [put_new k v l0 hk, e]
    exact merge_enc r (l0 ++ [(k, v)]) (by rw [← e]; exact h)
theorem look_enc : ∀ {l : List (Str × D)} {x : Str} {v : D}, (l.map (·.1)).Nodup → (x, v) ∈ l → lookD (.str x) (enc l) = some v
  | (k, w) :: r, x, v, nd, h => by
    rw [List.map_cons, List.nodup_cons] at nd
    show (if keyEq (.str k) (.str x) then some w else lookD (.str x) (enc r)) = some v
    rcases List.mem_cons.mp h with e | h
    · cases e
      rw [if_pos ((keyEq_str _ _).mpr rfl)]
    · have ne : ¬ keyEq (.str k) (.str x) = true := fun z => by
        have := (keyEq_str _ _).mp z
        cases this
        exact nd.1 (List.mem_map.mpr ⟨(k, v), h, rfl⟩)
      rw [if_neg ne]
      exact look_enc nd.2 h
theorem look_none : ∀ {l : List (Str × D)} {x : Str}, x ∉ l.map (·.1) → lookD (.str x) (enc l) = none
  | [], _, _ => rfl
  | (k, w) :: r, x, h => by
    rw [List.map_cons, List.mem_cons, not_or] at h
    show (if keyEq (.str k) (.str x) then some w else lookD (.str x) (enc r)) = none
    rw [if_neg (fun z => by have := (keyEq_str _ _).mp z; cases this; exact h.1 rfl)]
    exact look_none h.2
theorem enc_fn (l : List (Str × D)) : isFnB (enc l) = false := by
  cases l with
  | nil => rfl
  | cons q r =>
    cases r <;> rfl
section
variable {O : Ora} {s : Ev} {P : RV → Ev → Prop} {E : Xn → Ev → Prop} {e : GS.CE} {i : Nat}
theorem e_upd (h : isDic (ownAt s i) = true ∧ WG (ev O e s) (fun x s => WG (frz x s) (fun d s => ∃ more kvs, d = .dict more ∧ ownAt s i = some (.dic kvs) ∧ isFnB more = false ∧ kvs.length + more.length ≤ sizeLine ∧ P (.d .none) (setOb s i (.dic (mergeD kvs more)))) E) E) : WG (ev O (.upd i e) s) P E := by
  obtain ⟨e1, h⟩ := h
  show WG (if !isDic (ownAt s i) then Rs.stuck else (ev O e s).bind fun x s => (frz x s).bind fun d s => match d, ownAt s i with
    | .dict more, some (.dic kvs) => if !isFnB more && decide (kvs.length + more.length ≤ sizeLine) then .ok (.d .none) (setOb s i (.dic (mergeD kvs more))) else .stuck
    | _, _ => .stuck) P E
  rw [if_neg (by rw [e1]; decide)]
  refine WG_bind.mpr (h.mono (fun x s h => WG_bind.mpr (h.mono (fun d s h => ?_) fun _ _ z => z)) fun _ _ z => z)
  obtain ⟨more, kvs, rfl, e2, e3, e4, q⟩ := h
  rw [e2]
  dsimp only
  rw [e3, if_pos (by rw [Bool.and_eq_true, decide_eq_true_eq]; exact ⟨rfl, e4⟩)]
  exact w_ok.mpr q
end
def gatePairs (n : Net) : List (Str × D) := n.gates.map fun g => (g.name, .tuple (strL g.pins))
def endPairs (n : Net) : List (Str × Str) := n.regs.map (fun r => (r.name, r.data)) ++ n.outs
def feedPairs (n : Net) : List (Str × D) := gatePairs n ++ (endPairs n).map fun q => (q.1, .tuple [.str q.2])
theorem keysG (n : Net) : (gatePairs n).map (·.1) = n.gates.map (·.name) := by
  unfold gatePairs
  rw [List.map_map]
  rfl
theorem keysE (n : Net) : ((endPairs n).map fun q => (q.1, PyData.tuple [.str q.2])).map (·.1) = Net.endNames n := by
  unfold endPairs Net.endNames
  rw [List.map_map, List.map_append, List.map_map]
  rfl
theorem nd_feed {n : Net} {m : Nat} (h : n.Ok m) : ((feedPairs n).map (·.1)).Nodup := by
  have e : (feedPairs n).map (·.1) = n.gates.map (·.name) ++ Net.endNames n := by
    unfold feedPairs
    rw [List.map_append, keysG, keysE]
  rw [e]
  have nd := h.nodup
  have s1 : (n.regs.map (·.name) ++ n.outs.map (·.1) ++ n.gates.map (·.name)).Sublist (n.ins ++ n.regs.map (·.name) ++ n.outs.map (·.1) ++ n.gates.map (·.name)) := by
    rw [List.append_assoc n.ins, List.append_assoc n.ins]
    exact List.sublist_append_right _ _
  exact (List.perm_append_comm.nodup_iff.mp (nd.sublist s1))
theorem nd_gate {n : Net} {m : Nat} (h : n.Ok m) : ((gatePairs n).map (·.1)).Nodup := by
  have := nd_feed h
  unfold feedPairs at this
  rw [List.map_append] at this
  exact (List.nodup_append.mp this).1
section
variable {p : Prog}
/-- {gate[0]: gate[2] for gate in net[1]}, the netlist in slot 0, the gate in slot i -/
theorem x_gates {O : Ora} {s : Ev} {i : Nat} (n : Net) {m : Nat} (h : n.Ok m) (sm : Small n) (h0 : s[0]? = some (.val n.toD)) (hi : s[i]? = some .emp) (i0 : i ≠ 0) {P : RV → Ev → Prop} {E : Xn → Ev → Prop} (q : P (.own (.dic (enc (gatePairs n)))) s) :
    WG (ev O (.gen [i] (.nm i) (.v (.idx (.var 0) (.con (.int 1)))) .nil (.dic (.idx (.var i) (.con (.int 0))) (.idx (.var i) (.con (.int 2))))) s) P E := by
  have hg := sm.g
  have hl := (List.getElem?_eq_some_iff.mp hi).1
  refine e_dmap <| i_v <| e_idx.mpr <| (e_val h0).mpr <| e_con.mpr ⟨_, _, rfl, rfl, _, i_gates n, w_frzd ⟨n.gates.map Gate.toD, rfl, .emp, fun x => (.str (gName x), (idxD x (.int 2)).getD .none), hi, rfl, by rw [List.length_map, sl16]; omega, fun x hx => ?_, ?_⟩⟩
  · obtain ⟨g, _, rfl⟩ := List.mem_map.mp hx
    refine ⟨rfl, fun kvs hk => ?_⟩
    have at' : ((s.set i .emp).set i (.val g.toD))[i]? = some (.val g.toD) := List.getElem?_set_self (by rw [List.length_set]; exact hl)
    exact a_dic <| e_idx.mpr <| (e_val at').mpr <| e_con.mpr ⟨_, _, rfl, rfl, .str g.name, rfl, w_frzd <| e_idx.mpr <| (e_val at').mpr <| e_con.mpr ⟨_, _, rfl, rfl, .tuple (strL g.pins), rfl, w_frzd ⟨rfl, hk, rfl, rfl⟩⟩⟩
  · have e : (n.gates.map Gate.toD).map (fun x => (PyData.str (gName x), (idxD x (.int 2)).getD .none)) = enc (gatePairs n) := by
      unfold enc gatePairs
      rw [List.map_map, List.map_map]
      rfl
    rw [e]
    have m0 := merge_enc (gatePairs n) [] (by rw [List.nil_append]; exact nd_gate h)
    rw [List.nil_append] at m0
    have m1 : mergeD [] (enc (gatePairs n)) = enc (gatePairs n) := m0
    rw [m1]
    exact q
theorem r_feeding (A : Has p) (k : Nat) (n : Net) {m : Nat} (h : n.Ok m) (sm : Small n) {P : RV → Option Ob → Prop} {E : Xn → Option Ob → Prop} (q : P (.own (.dic (enc (feedPairs n)))) none) : wpR (run p (k + 1) "feeding" [.d n.toD]) P E := by
  refine wp_run A.f_feeding rfl fun O hΦ hG hΛ => ?_
  have h1 := sm.o
  have h2 := sm.r
  have h3 := sm.g
  show WG (exB O k_feeding [.val n.toD, .emp, .emp, .emp, .emp]) _ _
  unfold k_feeding q_feeding_0
  refine b_cons.mpr <| s_set.mpr <| x_gates n h sm rfl rfl (by decide) <| put_o (x := .emp) rfl rfl ?_
  -- one row of ends
  have row : ∀ (l : List (Str × Str)) (l0 : List (Str × D)) (x : D) (xs : List D), xs.length = l.length → (∀ (j : Nat) (y : D) (z : Str × Str), xs[j]? = some y → l[j]? = some z → ∃ r, y = .tuple (.str z.1 :: .str z.2 :: r)) → l.length ≤ 100 → l0.length ≤ 100 → ((l0 ++ l.map fun q => (q.1, PyData.tuple [.str q.2])).map (·.1)).Nodup → x = .tuple xs →
      WG (evA O (.into [4] (.nm 4) (.v (.var 3)) .nil (.dic (.idx (.var 4) (.con (.int (0)))) (.tup (.cons (.idx (.var 4) (.con (.int (1)))) .nil)))) (.dic (enc l0)) [.val n.toD, .own (.dic (enc (gatePairs n))), .emp, .val x, .emp]) (fun acc s => acc = .dic (enc (l0 ++ l.map fun q => (q.1, PyData.tuple [.str q.2]))) ∧ s = [.val n.toD, .own (.dic (enc (gatePairs n))), .emp, .val x, .emp]) (fun _ _ => False) := by
    intro l l0 x xs lx hx ll l0l nd ex
    subst ex
    refine a_into <| i_v <| (e_val rfl).mpr <| w_frzd ⟨xs, rfl, rfl, w_wipe1 (x := .emp) rfl rfl ?_⟩
    refine wp_compO (fun j acc s => acc = .dic (enc (l0 ++ (l.take j).map fun q => (q.1, PyData.tuple [.str q.2]))) ∧ s = [.val n.toD, .own (.dic (enc (gatePairs n))), .emp, .val (.tuple xs), .emp]) (fun j y acc s hj ⟨ea, es⟩ => ?_) (fun acc s ⟨ea, es⟩ => ?_) ⟨by rw [List.take_zero]; simp, rfl⟩
    · subst ea es
      have lt : j < l.length := by rw [← lx]; exact (List.getElem?_eq_some_iff.mp hj).1
      obtain ⟨r, rfl⟩ := hx j y l[j] hj (List.getElem?_eq_getElem lt)
      have i1 : idxD (.tuple (.str l[j].1 :: .str l[j].2 :: r)) (.int 1) = some (.str l[j].2) := L2.atI_nat (j := 1) rfl
      have tk : l.take (j + 1) = l.take j ++ [l[j]] := by rw [List.take_add_one, List.getElem?_eq_getElem lt]; rfl
      refine bind_nm (x := .emp) rfl rfl <| t_nil <| a_dic <| e_idx.mpr <| (e_val rfl).mpr <| e_con.mpr ⟨_, _, rfl, rfl, .str l[j].1, idx0 _ _, w_frzd <| e_tup.mpr <| e_cons.mpr <| e_idx.mpr <| (e_val rfl).mpr <| e_con.mpr ⟨_, _, rfl, rfl, _, i1, e_nil.mpr <| w_frzL (ds := [.str l[j].2]) ⟨one_size, w_frzd ⟨rfl, ?_, w_wipe1 (x := .val _) rfl rfl ⟨?_, rfl⟩⟩⟩⟩⟩
      · rw [enc_len, List.length_append, List.length_map, List.length_take, sl16]; omega
      · rw [put_new, List.append_assoc, tk, List.map_append]
        · rfl
        · have nd' : ((l0 ++ (l.take (j + 1)).map fun q => (q.1, PyData.tuple [.str q.2])).map (·.1)).Nodup := by
            refine nd.sublist (List.Sublist.map _ ((List.Sublist.refl _).append (List.Sublist.map _ (List.take_sublist _ _))))
          have e : l0 ++ (l.take j ++ [l[j]]).map (fun q : Str × Str => (q.1, PyData.tuple [.str q.2])) = (l0 ++ (l.take j).map fun q : Str × Str => (q.1, PyData.tuple [.str q.2])) ++ [(l[j].1, PyData.tuple [.str l[j].2])] := by rw [List.map_append, List.append_assoc]; rfl
          rw [tk, e, List.map_append] at nd'
          exact fun z => (List.nodup_append.mp nd').2.2 _ z l[j].1 (by simp) rfl
    · subst ea es
      rw [lx, List.take_length]
      exact ⟨rfl, rfl⟩
  unfold q_feeding_1
  refine b_cons.mpr <| s_ex.mpr <| e_upd ⟨rfl, e_gen <| i_v <| e_slc <| (e_val rfl).mpr <| e_cons.mpr <| e_con.mpr <| e_nil.mpr ⟨_, rfl, e_nil.mpr ⟨_, none, _, rfl, rfl, tail2 n, w_frzd ⟨[.tuple (n.regs.map Reg.toD), .tuple (n.outs.map outD)], rfl, rfl, w_wipe2 (x := .emp) (y := .emp) rfl rfl rfl rfl ?_⟩⟩⟩⟩
  have ndE : (((endPairs n).map fun q => (q.1, PyData.tuple [.str q.2])).map (·.1)).Nodup := by
    have := nd_feed h
    unfold feedPairs at this
    rw [List.map_append] at this
    exact (List.nodup_append.mp this).2.1
  have eE : (endPairs n).map (fun q => (q.1, PyData.tuple [.str q.2])) = (n.regs.map fun r => (r.name, r.data)).map (fun q => (q.1, PyData.tuple [.str q.2])) ++ n.outs.map fun q => (q.1, PyData.tuple [.str q.2]) := by
    unfold endPairs
    rw [List.map_append]
  refine wp_compO (fun j acc s => s = [.val n.toD, .own (.dic (enc (gatePairs n))), .emp, .emp, .emp] ∧ ((j = 0 ∧ acc = .dic (enc [])) ∨ (j = 1 ∧ acc = .dic (enc ((n.regs.map fun r => (r.name, r.data)).map fun q => (q.1, PyData.tuple [.str q.2])))) ∨ (j = 2 ∧ acc = .dic (enc ((endPairs n).map fun q => (q.1, PyData.tuple [.str q.2])))))) (fun j x acc s hj ⟨es, ea⟩ => ?_) (fun acc s ⟨es, ea⟩ => ?_) ⟨rfl, .inl ⟨rfl, rfl⟩⟩
  · subst es
    rcases ea with ⟨rfl, rfl⟩ | ⟨rfl, rfl⟩ | ⟨rfl, rfl⟩
    · cases hj
      refine bind_nm (x := .emp) rfl rfl <| t_nil <| (row (n.regs.map fun r => (r.name, r.data)) [] _ (n.regs.map Reg.toD) (by rw [List.length_map, List.length_map]) (fun j y z e1 e2 => ?_) (by rw [List.length_map]; omega) (by simp) (by rw [eE, List.map_append] at ndE; exact (List.nodup_append.mp ndE).1) rfl).mono (fun acc s ⟨e1, e2⟩ => ?_) fun _ _ z => z.elim
      · rw [List.getElem?_map] at e1 e2
        obtain ⟨r, er, rfl⟩ := some_map e1
        rw [er] at e2
        cases e2
        exact ⟨_, rfl⟩
      · subst e1 e2
        exact w_wipe2 (x := .val _) (y := .emp) rfl rfl rfl rfl ⟨rfl, .inr (.inl ⟨rfl, rfl⟩)⟩
    · cases hj
      refine bind_nm (x := .emp) rfl rfl <| t_nil <| (row n.outs _ _ (n.outs.map outD) (by rw [List.length_map]) (fun j y z e1 e2 => ?_) (by omega) (by rw [List.length_map, List.length_map]; omega) (by rw [← eE]; exact ndE) rfl).mono (fun acc s ⟨e1, e2⟩ => ?_) fun _ _ z => z.elim
      · rw [List.getElem?_map] at e1
        obtain ⟨r, er, rfl⟩ := some_map e1
        rw [er] at e2
        cases e2
        exact ⟨_, rfl⟩
      · subst e1 e2
        refine w_wipe2 (x := .val _) (y := .emp) rfl rfl rfl rfl ⟨rfl, .inr (.inr ⟨rfl, ?_⟩)⟩
        rw [eE]
    · cases hj
  · subst es
    rcases ea with ⟨z, _⟩ | ⟨z, _⟩ | ⟨_, rfl⟩
    · cases z
    · cases z
    · have me := merge_enc ((endPairs n).map fun q : Str × Str => (q.1, PyData.tuple [.str q.2])) (gatePairs n) (nd_feed h)
      have lg : (gatePairs n).length = n.gates.length := List.length_map ..
      have le : (endPairs n).length ≤ 8 := by
        unfold endPairs
        rw [List.length_append, List.length_map]
        omega
      refine w_frzo ⟨_, _, rfl, rfl, enc_fn _, by rw [enc_len, enc_len, List.length_map, lg, sl16]; omega, ?_⟩
      rw [me]
      exact b_cons.mpr <| s_ret.mpr <| (e_own rfl).mpr <| w_rets rfl q
end
end KA

/-! KA6: paths. -/
namespace KA
open PySem GS ND
/-- each one feeds the next -/
def Chain (n : Net) : Str → List Str → Prop
  | _, [] => True
  | at_, m :: r => (∃ g ∈ n.gates, g.name = m ∧ at_ ∈ g.pins) ∧ Chain n m r
def lastOf : Str → List Str → Str
  | at_, [] => at_
  | _, m :: r => lastOf m r
structure PathOf (n : Net) (w : List Str) : Prop where
  ex : ∃ (first : Str) (mids : List Str) (e : Str), w = first :: (mids ++ [e]) ∧ first ∈ n.starts ∧ Chain n first mids ∧ (e, lastOf first mids) ∈ endPairs n
theorem PathOf.len {n : Net} {w : List Str} (h : PathOf n w) : 2 ≤ w.length := by
  obtain ⟨f, ms, e, rfl, _⟩ := h.ex
  rw [List.length_cons, List.length_append, List.length_singleton]
  omega
theorem end_in {n : Net} {e d : Str} (h : (e, d) ∈ endPairs n) : e ∈ Net.endNames n ∧ d ∈ n.ends := by
  unfold endPairs at h
  unfold Net.endNames Net.ends
  rcases List.mem_append.mp h with h | h
  · obtain ⟨r, hr, e⟩ := List.mem_map.mp h
    cases e
    exact ⟨List.mem_append_left _ (List.mem_map.mpr ⟨r, hr, rfl⟩), List.mem_append_left _ (List.mem_map.mpr ⟨r, hr, rfl⟩)⟩
  · exact ⟨List.mem_append_right _ (List.mem_map.mpr ⟨_, h, rfl⟩), List.mem_append_right _ (List.mem_map.mpr ⟨_, h, rfl⟩)⟩
theorem PathOf.names {n : Net} {m : Nat} (hn : n.Ok m) {w : List Str} (h : PathOf n w) : ∀ x ∈ w, IsName x := by
  obtain ⟨f, ms, e, rfl, hf, hc, he⟩ := h.ex
  have nm := hn.names
  have gs : ∀ (ms : List Str) (f : Str), Chain n f ms → ∀ x ∈ ms, x ∈ n.gates.map (·.name) := by
    intro ms
    induction ms with
    | nil => intro f _ x hx; cases hx
    | cons a r ih =>
      intro f hc x hx
      obtain ⟨⟨g, hg, e, _⟩, hr⟩ := hc
      rcases List.mem_cons.mp hx with rfl | hx
      · exact List.mem_map.mpr ⟨g, hg, e⟩
      · exact ih a hr x hx
  intro x hx
  rcases List.mem_cons.mp hx with rfl | hx
  · exact nm _ (List.mem_append_left _ (List.mem_append_left _ hf))
  · rcases List.mem_append.mp hx with hx | hx
    · exact nm _ (List.mem_append_right _ (gs ms f hc x hx))
    · rw [List.mem_singleton.mp hx]
      have := (end_in he).1
      unfold Net.endNames at this
      rcases List.mem_append.mp this with z | z
      · exact nm _ (List.mem_append_left _ (List.mem_append_left _ (List.mem_append_right _ z)))
      · exact nm _ (List.mem_append_left _ (List.mem_append_right _ z))
theorem eq_one (a : Str) : cmpD .Eq (.tuple [.str a]) (.tuple [.str a]) = some true := by
  show (if plainD (.tuple [.str a]) && plainD (.tuple [.str a]) && decide (min (PyData.tuple [.str a]).depth (PyData.tuple [.str a]).depth ≤ 64) then some (PyData.eqv (.tuple [.str a]) (.tuple [.str a])) else none) = _
  have d : (PyData.tuple [.str a]).depth ≤ 64 := by simp [PyData.depth, PyData.depthAll]
  rw [if_pos (by rw [Bool.and_eq_true, decide_eq_true_eq]; exact ⟨rfl, Nat.le_trans (Nat.min_le_left _ _) d⟩)]
  have : PyData.eqv (.tuple [.str a]) (.tuple [.str a]) = (decide (a = a) && true) := rfl
  rw [this, decide_eq_true rfl]
  rfl
section
variable {O : Ora} {s : Ev} {E : Xn → Ev → Prop} {e : GS.CE} {Q : Fl → Ev → Prop} {pre post : List Nat} {m : Nat}
theorem w_putS {i : Nat} {x y : Sl} {QU : Unit → Ev → Prop} (hs : s[i]? = some y) (h : isIo (some y) = false) (q : QU () (s.set i x)) : WG (putS i x s) QU E := by
  unfold putS
  rw [hs, h, decide_eq_true (List.getElem?_eq_some_iff.mp hs).1]
  exact w_ok.mpr q
theorem s_sset (h : WG (ev O e s) (fun v s => WG (frz v s) (fun d s => ∃ xs, seqD d = some xs ∧ pre.length + post.length ≤ xs.length ∧ WG (bindAll pre (xs.take pre.length) s) (fun _ s => WG (putS m (.own (.lst ((xs.drop pre.length).take (xs.length + 1 - (pre.length + 1 + post.length))))) s) (fun _ s =>
      WG (bindAll post ((xs.drop pre.length).drop (xs.length + 1 - (pre.length + 1 + post.length))) s) (fun _ s => Q .nx s) E) E) E) E) E) : WG (exS O (.sset pre m post e) s) Q E := by
  refine WG_bind.mpr (h.mono (fun v s h => WG_bind.mpr (h.mono (fun d s h => ?_) fun _ _ z => z)) fun _ _ z => z)
  obtain ⟨xs, e1, l, h⟩ := h
  rw [e1]
  show WG (if pre.length + post.length ≤ xs.length then (bindAll pre (xs.take pre.length) s).bind fun _ s => (putS m (.own (.lst ((xs.drop pre.length).take (xs.length + 1 - (pre.length + 1 + post.length))))) s).bind fun _ s => (bindAll post ((xs.drop pre.length).drop (xs.length + 1 - (pre.length + 1 + post.length))) s).bind fun _ s => .ok .nx s else .stuck) Q E
  rw [if_pos l]
  exact WG_bind.mpr (h.mono (fun _ s h => WG_bind.mpr (h.mono (fun _ s h => WG_bind.mpr (h.mono (fun _ s h => w_ok.mpr h) fun _ _ z => z)) fun _ _ z => z)) fun _ _ z => z)
end
theorem in_dict (x : Str) (l : List (Str × D)) : isIn (.str x) (.dict (enc l)) = some (lookD (.str x) (enc l)).isSome := by
  show (if keyOk (.str x) && !isFnB (enc l) then some (lookD (.str x) (enc l)).isSome else none) = _
  rw [enc_fn, if_pos (show (keyOk (.str x) && !false) = true from rfl)]
section
variable {p : Prog}
theorem r_is_path (A : Has p) (C : Con p) (k : Nat) (n : Net) {m : Nat} (hn : n.Ok m) (sm : Small n) (w : List Str) (hw : PathOf n w) (lw : w.length ≤ 1000000) {P : RV → Option Ob → Prop} {E : Xn → Option Ob → Prop} (q : P (.d (.bool true)) none) :
    wpR (run p (k + 2) "is_path" [.d n.toD, .d (.tuple (strL w))]) P E := by
  have nms := hw.names hn
  have l2 := hw.len
  obtain ⟨f, ms, e, ew, hf, hc, he⟩ := hw.ex
  have lL : ∀ l : List Str, (strL l).length = l.length := fun l => List.length_map ..
  refine wp_run A.f_is_path rfl fun O hΦ hG hΛ => ?_
  show WG (exB O k_is_path [.val n.toD, .val (.tuple (strL w)), .emp, .emp, .emp, .emp, .emp, .emp, .emp, .emp]) _ _
  unfold k_is_path
  refine b_cons.mpr <| s_ife.mpr <| e_or.mpr <| e_not.mpr <| e_isi.mpr <| (e_val rfl).mpr ⟨true, rfl, true, rfl, false, rfl, e_or.mpr <| e_cmp.mpr <| e_bi.mpr <| e_cons.mpr <| (e_val rfl).mpr <| e_nil.mpr ⟨.d (.int (strL w).length), rfl, e_con.mpr ⟨_, _, rfl, rfl, false, ?_, false, rfl, ?_⟩⟩⟩
  · show some (decide (((strL w).length : Int) < 2)) = _
    rw [lL, decide_eq_false (by omega)]
  unfold q_is_path_0
  refine e_not.mpr <| e_bi.mpr <| e_cons.mpr <| e_map <| i_v <| (e_val rfl).mpr <| w_frzd ⟨strL w, rfl, .emp, fun _ => .bool true, rfl, rfl, by rw [lL, sl16]; omega, fun x hx => ?_, ?_⟩
  · obtain ⟨y, hy, rfl⟩ := List.mem_map.mp hx
    refine e_call <| e_cons.mpr <| (e_val rfl).mpr <| e_nil.mpr ⟨[.d (.str y)], rfl, ?_⟩
    rw [hΦ]
    exact r_is_name A C k y (nms y hy) ⟨_, rfl, w_frzd ⟨rfl, rfl⟩⟩
  have eb : (strL w).map (fun _ => PyData.bool true) = (w.map fun _ => true).map PyData.bool := by
    unfold strL
    rw [List.map_map, List.map_map]
    rfl
  rw [eb]
  refine e_nil.mpr ⟨_, b_all _, true, ?_, false, rfl, b_nil.mpr ?_⟩
  · have t : ((w.map fun _ => true).all id) = true := by
      rw [List.all_eq_true]
      intro b hb
      obtain ⟨_, _, rfl⟩ := List.mem_map.mp hb
      rfl
    rw [t]
    rfl
  -- the first, the others; the gates, the end
  have w1 : strL w = .str f :: (strL ms ++ [.str e]) := by
    rw [ew]
    show PyData.str f :: strL (ms ++ [e]) = _
    rw [strL_snoc]
  rw [w1]
  have lo : (strL ms ++ [PyData.str e]).length = ms.length + 1 := by rw [List.length_append, lL]; rfl
  refine b_cons.mpr <| s_sset <| (e_val rfl).mpr <| w_frzd ⟨PyData.str f :: (strL ms ++ [.str e]), rfl, by show 1 + 0 ≤ _; rw [List.length_cons, lo]; omega, ?_⟩
  have t1 : ((PyData.str f :: (strL ms ++ [PyData.str e])).drop 1).take ((PyData.str f :: (strL ms ++ [PyData.str e])).length + 1 - (1 + 1 + 0)) = strL ms ++ [.str e] := by
    show (strL ms ++ [PyData.str e]).take _ = _
    exact List.take_of_length_le (by rw [List.length_cons]; omega)
  have t2 : ((PyData.str f :: (strL ms ++ [PyData.str e])).drop 1).drop ((PyData.str f :: (strL ms ++ [PyData.str e])).length + 1 - (1 + 1 + 0)) = [] := by
    show (strL ms ++ [PyData.str e]).drop _ = _
    exact List.drop_eq_nil_of_le (by rw [List.length_cons]; omega)
  refine WG_bind.mpr <| w_putS (y := .emp) rfl rfl <| w_ok.mpr ?_
  show WG (putS 3 (.own (.lst (((PyData.str f :: (strL ms ++ [PyData.str e])).drop 1).take ((PyData.str f :: (strL ms ++ [PyData.str e])).length + 1 - (1 + 1 + 0))))) _) (fun _ s => WG (bindAll [] (((PyData.str f :: (strL ms ++ [PyData.str e])).drop 1).drop ((PyData.str f :: (strL ms ++ [PyData.str e])).length + 1 - (1 + 1 + 0))) s) _ _) _
  rw [t1, t2]
  refine w_putS (y := .emp) rfl rfl <| w_ok.mpr ?_
  refine b_cons.mpr <| s_sset <| (e_own rfl).mpr <| w_frzs rfl ⟨strL ms ++ [.str e], rfl, by show 0 + 1 ≤ _; rw [lo]; omega, w_ok.mpr ?_⟩
  have t3 : ((strL ms ++ [PyData.str e]).drop 0).take ((strL ms ++ [PyData.str e]).length + 1 - (0 + 1 + 1)) = strL ms := by
    rw [List.drop_zero, lo, show ms.length + 1 + 1 - (0 + 1 + 1) = (strL ms).length by rw [lL]; omega, List.take_left']
    rfl
  have t4 : ((strL ms ++ [PyData.str e]).drop 0).drop ((strL ms ++ [PyData.str e]).length + 1 - (0 + 1 + 1)) = [.str e] := by
    rw [List.drop_zero, lo, show ms.length + 1 + 1 - (0 + 1 + 1) = (strL ms).length by rw [lL]; omega, List.drop_left']
    rfl
  show WG (putS 4 (.own (.lst (((strL ms ++ [PyData.str e]).drop 0).take ((strL ms ++ [PyData.str e]).length + 1 - (0 + 1 + 1))))) _) (fun _ s => WG (bindAll [5] (((strL ms ++ [PyData.str e]).drop 0).drop ((strL ms ++ [PyData.str e]).length + 1 - (0 + 1 + 1))) s) _ _) _
  rw [t3, t4]
  refine w_putS (y := .emp) rfl rfl <| WG_bind.mpr <| w_putS (y := .emp) rfl rfl <| w_ok.mpr ?_
  -- its ends
  have hs : f ∈ n.starts := hf
  refine b_cons.mpr <| s_ife.mpr <| e_or.mpr <| e_cmp.mpr <| (e_val rfl).mpr <| e_call <| e_cons.mpr <| (e_val rfl).mpr <| e_nil.mpr ⟨[.d n.toD], rfl, ?_⟩
  rw [hΦ]
  refine r_starts_of A k n sm ⟨_, rfl, _, _, rfl, rfl, false, ?_, false, rfl, ?_⟩
  · show (isIn _ _).map not = _
    rw [in_tup, decide_eq_true hs]
    rfl
  refine e_cmp.mpr <| (e_val rfl).mpr <| e_call <| e_cons.mpr <| (e_val rfl).mpr <| e_nil.mpr ⟨[.d n.toD], rfl, ?_⟩
  rw [hΦ]
  refine r_ends_of A k n sm ⟨_, rfl, _, _, rfl, rfl, false, ?_, false, rfl, b_nil.mpr ?_⟩
  · show (isIn _ _).map not = _
    rw [in_tup, decide_eq_true (end_in he).1]
    rfl
  unfold q_is_path_1
  refine b_cons.mpr <| s_par.mpr <| x_gates n hn sm rfl rfl (by decide) <| w_stlo <| (e_val rfl).mpr <| w_stld <| put_o (x := .emp) rfl rfl <| put_v (x := .emp) rfl rfl ?_
  -- the gates one behind another
  unfold q_is_path_2
  refine b_cons.mpr <| s_for <| i_lv rfl (.inl rfl) ?_
  refine ⟨fun j s => ∃ (at_ : Str) (x8 : Sl), s = [.val n.toD, .val (.tuple (.str f :: (strL ms ++ [.str e]))), .val (.str f), .val (.list (strL ms ++ [.str e])), .val (.list (strL ms)), .val (.str e), .own (.dic (enc (gatePairs n))), .val (.str at_), x8, .emp] ∧ isIo (some x8) = false ∧ Chain n at_ (ms.drop j) ∧ lastOf at_ (ms.drop j) = lastOf f ms,
    ⟨f, .emp, rfl, rfl, hc, rfl⟩, fun j x s hx ⟨at_, x8, es, i8, hch, hla⟩ => ?_, fun s ⟨at_, x8, es, i8, hch, hla⟩ => ?_⟩
  · subst es
    have hj : j < ms.length := by
      have := (List.getElem?_eq_some_iff.mp hx).1
      rw [lL] at this
      exact this
    have ex : x = .str ms[j] := by
      rw [strL, List.getElem?_map, List.getElem?_eq_getElem hj] at hx
      cases hx
      rfl
    subst ex
    rw [List.drop_eq_getElem_cons hj] at hch hla
    obtain ⟨⟨g, hg, gn, gp⟩, hr⟩ := hch
    have lk : lookD (.str ms[j]) (enc (gatePairs n)) = some (.tuple (strL g.pins)) := look_enc (nd_gate hn) (List.mem_map.mpr ⟨g, hg, by rw [gn]⟩)
    refine bind_nm (x := x8) rfl i8 <| b_cons.mpr <| s_ife.mpr <| e_or.mpr <| e_cmp.mpr <| (e_val rfl).mpr <| (e_own rfl).mpr ⟨_, _, rfl, rfl, false, ?_, false, rfl, e_cmp.mpr <| (e_val rfl).mpr <| e_idx.mpr <| (e_own rfl).mpr <| (e_val rfl).mpr ⟨_, _, rfl, rfl, _, idx_dic lk, _, _, rfl, rfl, false, ?_, false, rfl, b_nil.mpr <| b_cons.mpr <| s_set.mpr <| (e_val rfl).mpr <| put_v (x := .val (.str at_)) rfl rfl <| b_nil.mpr ⟨ms[j], _, rfl, rfl, hr, hla⟩⟩⟩
    · show (isIn _ (.dict (enc (gatePairs n)))).map not = _
      rw [in_dict, lk]
      rfl
    · show (isIn _ _).map not = _
      rw [in_tup, decide_eq_true gp]
      rfl
  · subst es
    rw [lL, List.drop_length] at hla
    have hla : at_ = lastOf f ms := hla
    have lk : lookD (.str e) (enc (feedPairs n)) = some (.tuple [.str at_]) := look_enc (nd_feed hn) (List.mem_append_right _ (List.mem_map.mpr ⟨_, he, by rw [hla]⟩))
    refine b_cons.mpr <| s_ret.mpr <| e_cmp.mpr <| e_idx.mpr <| e_call <| e_cons.mpr <| (e_val rfl).mpr <| e_nil.mpr ⟨[.d n.toD], rfl, ?_⟩
    rw [hΦ]
    exact r_feeding A k n hn sm ⟨_, rfl, (e_val rfl).mpr ⟨_, _, rfl, rfl, _, idx_dic lk, e_tup.mpr <| e_cons.mpr <| (e_val rfl).mpr <| e_nil.mpr <| w_frzL (ds := [.str at_]) ⟨one_size, _, _, rfl, rfl, _, eq_one at_, w_retd q⟩⟩⟩
theorem r_need_path (A : Has p) (C : Con p) (k : Nat) (n : Net) {m : Nat} (hn : n.Ok m) (sm : Small n) (w : List Str) (hw : PathOf n w) (lw : w.length ≤ 1000000) {P : RV → Option Ob → Prop} {E : Xn → Option Ob → Prop} (q : P (.d .none) none) :
    wpR (run p (k + 3) "need_path" [.d n.toD, .d (.tuple (strL w))]) P E := by
  refine wp_run A.f_need_path rfl fun O hΦ hG hΛ => ?_
  show WG (exB O k_need_path [.val n.toD, .val (.tuple (strL w))]) _ _
  unfold k_need_path
  refine b_cons.mpr <| s_ife.mpr <| e_not.mpr <| e_call <| e_cons.mpr <| (e_val rfl).mpr <| e_cons.mpr <| (e_val rfl).mpr <| e_nil.mpr ⟨[.d n.toD, .d (.tuple (strL w))], rfl, ?_⟩
  rw [hΦ]
  exact r_is_path A C k n hn sm w hw lw ⟨_, rfl, true, rfl, false, rfl, b_nil.mpr (b_nil.mpr q)⟩
end
end KA

/-! KA7: slacks. -/
namespace KA
open PySem GS ND
theorem look_val : ∀ {l : List (Str × D)} {x : Str} {v : D}, lookD (.str x) (enc l) = some v → ∃ q ∈ l, q.2 = v
  | (k, w) :: r, x, v, h => by
    have h : (if keyEq (.str k) (.str x) then some w else lookD (.str x) (enc r)) = some v := h
    split at h
    · cases h
      exact ⟨_, List.mem_cons_self, rfl⟩
    · obtain ⟨q, hq, e⟩ := look_val h
      exact ⟨q, List.mem_cons_of_mem _ hq, e⟩
def shiftPairs (n : Net) (c : Clk) : List (Str × D) := (n.regs.zip c.sk).map fun q => (q.1.name, .int q.2)
def needPairs (n : Net) : List (Str × D) := n.regs.map fun r => (r.name, pairD (r.su, r.ho))
def shiftAt (n : Net) (c : Clk) (x : Str) : Int := match lookD (.str x) (enc (shiftPairs n c)) with
  | some (.int i) => i
  | _ => 0
def needAt (n : Net) (x : Str) : Int × Int := match lookD (.str x) (enc (needPairs n)) with
  | some (.tuple [.int a, .int b]) => (a, b)
  | _ => (0, 0)
theorem shift_get (n : Net) (c : Clk) (x : Str) : (lookD (.str x) (enc (shiftPairs n c))).getD (.int 0) = .int (shiftAt n c x) := by
  unfold shiftAt
  cases h : lookD (.str x) (enc (shiftPairs n c)) with
  | none => rfl
  | some v =>
    obtain ⟨q, hq, rfl⟩ := look_val h
    obtain ⟨z, _, rfl⟩ := List.mem_map.mp hq
    rfl
theorem need_get (n : Net) (x : Str) : (lookD (.str x) (enc (needPairs n))).getD (.tuple [.int 0, .int 0]) = pairD (needAt n x) := by
  unfold needAt
  cases h : lookD (.str x) (enc (needPairs n)) with
  | none => rfl
  | some v =>
    obtain ⟨q, hq, rfl⟩ := look_val h
    obtain ⟨z, _, rfl⟩ := List.mem_map.mp hq
    rfl
theorem nd_regs {n : Net} {m : Nat} (h : n.Ok m) : (n.regs.map (·.name)).Nodup := by
  have nd := h.nodup
  rw [List.append_assoc, List.append_assoc] at nd
  exact (List.nodup_append.mp ((List.nodup_append.mp nd).2.1)).1
theorem nd_shift {n : Net} {m : Nat} (h : n.Ok m) (c : Clk) : ((shiftPairs n c).map (·.1)).Nodup := by
  refine (nd_regs h).sublist ?_
  unfold shiftPairs
  rw [List.map_map]
  have : ∀ (rs : List Reg) (sk : List Int), ((rs.zip sk).map ((fun q : Str × D => q.1) ∘ fun q : Reg × Int => (q.1.name, PyData.int q.2))).Sublist (rs.map (·.name)) := by
    intro rs
    induction rs with
    | nil => intro sk; exact List.Sublist.refl _
    | cons r rs ih =>
      intro sk
      cases sk with
      | nil => exact List.nil_sublist _
      | cons x sk => exact (ih sk).cons₂ _
  exact this _ _
theorem nd_need {n : Net} {m : Nat} (h : n.Ok m) : ((needPairs n).map (·.1)).Nodup := by
  unfold needPairs
  rw [List.map_map]
  exact nd_regs h
theorem merge_self {l : List (Str × D)} (h : (l.map (·.1)).Nodup) : mergeD [] (enc l) = enc l := by
  have := merge_enc l [] (by rw [List.nil_append]; exact h)
  rw [List.nil_append] at this
  exact this
/-- a path's ends -/
def firstOf (w : List Str) : Str := w.headD ""
def endOf (w : List Str) : Str := w.getLastD ""
theorem idx_first {w : List Str} (h : 1 ≤ w.length) : idxD (.tuple (strL w)) (.int 0) = some (.str (firstOf w)) := by
  cases w with
  | nil => cases h
  | cons a r => exact idx0 _ _
theorem idx_last {w : List Str} (h : 1 ≤ w.length) : idxD (.tuple (strL w)) (.int (-1)) = some (.str (endOf w)) := by
  have hl : (strL w).length = w.length := List.length_map ..
  show L2.atI (strL w) (-1) = _
  have e1 : L2.ixN (strL w).length (-1) = some (w.length - 1) := by
    rw [hl]
    unfold L2.ixN
    simp
    omega
  unfold L2.atI
  rw [e1]
  show (strL w)[w.length - 1]? = _
  rw [strL, List.getElem?_map, List.getElem?_eq_getElem (by omega)]
  unfold endOf
  cases w with
  | nil => cases h
  | cons a r =>
    rw [List.getLastD_cons]
    show some (PyData.str ((a :: r)[r.length])) = _
    congr 2
    rw [List.getLastD_eq_getLast?]
    cases r with
    | nil => rfl
    | cons b r =>
      rw [List.getLast?_eq_getElem?]
      simp
def slackOn (n : Net) (c : Clk) (w : List Str) (side : Str) (spot : Nat) : Int :=
  if side = "late" then shiftAt n c (endOf w) + c.beat - (needAt n (endOf w)).1 - shiftAt n c (firstOf w) - (sumsOn n w spot).2
  else shiftAt n c (firstOf w) + (sumsOn n w spot).1 - shiftAt n c (endOf w) - (needAt n (endOf w)).2
section
variable {O : Ora} {s : Ev} {P : RV → Ev → Prop} {E : Xn → Ev → Prop} {a b : GS.CE} {i : Nat}
theorem x_get {l : List (Str × D)} {x : Str} {v : D} (hs : s[i]? = some (.own (.dic (enc l)))) (ha : WG (ev O a s) (fun r s' => r = .d (.str x) ∧ s' = s) fun _ _ => False) (hb : WG (ev O b s) (fun r s' => r = .d v ∧ s' = s) fun _ _ => False) (q : P (.d ((lookD (.str x) (enc l)).getD v)) s) :
    WG (ev O (.meth "get" (.var i) (.cons a (.cons b .nil))) s) P E := by
  have hg : (RV.sl i).opd.get s = some (.dict (enc l)) := by
    show (match s[i]? with
      | some (.val x) => some x
      | some (.own o) => some o.toD
      | some (.io o) => some o.toD
      | _ => none) = _
    rw [hs]
    rfl
  refine e_meth <| (e_own hs).mpr ⟨?_, e_cons.mpr <| ha.mono (fun r s1 ⟨e1, e2⟩ => ?_) fun _ _ z => z.elim⟩
  · rw [hg]
    show some (("get" : String) == "get" && !isFnB (enc l)) = _
    rw [enc_fn]
    rfl
  · subst e1 e2
    refine e_cons.mpr <| hb.mono (fun r s1 ⟨e1, e2⟩ => ?_) fun _ _ z => z.elim
    subst e1 e2
    refine e_nil.mpr ?_
    rw [if_pos (by decide)]
    refine w_frzL (ds := [.str x, v]) ⟨_, _, hg, ?_, q⟩
    show (if keyOk (.str x) && !isFnB (enc l) then some (RV.d ((lookD (.str x) (enc l)).getD v)) else none) = _
    rw [enc_fn, if_pos (show (keyOk (.str x) && !false) = true from rfl)]
theorem i_zip {st : Bool} {QI : List D → Ev → Prop} (h : WG (ev O a s) (fun x s => WG (frz x s) (fun x s => WG (ev O b s) (fun y s => WG (frz y s) (fun y s => ∃ xs ys, seqD x = some xs ∧ seqD y = some ys ∧ xs.length = ys.length ∧ QI (zipD xs ys) s) E) E) E) E) : WG (evI O (.zip st a b) s) QI E := by
  refine WG_bind.mpr (h.mono (fun x s h => WG_bind.mpr (h.mono (fun x s h => WG_bind.mpr (h.mono (fun y s h => WG_bind.mpr (h.mono (fun y s h => ?_) fun _ _ z => z)) fun _ _ z => z)) fun _ _ z => z)) fun _ _ z => z)
  obtain ⟨xs, ys, e1, e2, e3, q⟩ := h
  rw [e1, e2]
  show WG (if (!st || xs.length == ys.length) = true then Rs.ok (zipD xs ys) s else .stuck) QI E
  rw [if_pos (by rw [e3]; simp)]
  exact w_ok.mpr q
theorem e_lzip (h : WG (ev O a s) (fun x s => WG (frz x s) (fun x s => WG (ev O b s) (fun y s => WG (frz y s) (fun y s => ∃ xs ys, seqD x = some xs ∧ seqD y = some ys ∧ xs.length = ys.length ∧ P (.own (.lst (zipD xs ys))) s) E) E) E) E) : WG (ev O (.lzip a b) s) P E := by
  refine WG_bind.mpr (h.mono (fun x s h => WG_bind.mpr (h.mono (fun x s h => WG_bind.mpr (h.mono (fun y s h => WG_bind.mpr (h.mono (fun y s h => ?_) fun _ _ z => z)) fun _ _ z => z)) fun _ _ z => z)) fun _ _ z => z)
  obtain ⟨xs, ys, e1, e2, e3, q⟩ := h
  rw [e1, e2]
  show WG (if (xs.length == ys.length) = true then Rs.ok (RV.own (.lst (zipD xs ys))) s else .stuck) P E
  rw [if_pos (by rw [e3]; simp)]
  exact w_ok.mpr q
end
theorem pairs_enc (l : List (Str × D)) : pairsD (l.map fun q => PyData.tuple [.str q.1, q.2]) = some (enc l) := by
  induction l with
  | nil => rfl
  | cons q r ih =>
    show (if keyOk (.str q.1) then (pairsD (r.map fun q => PyData.tuple [.str q.1, q.2])).map ((PyData.str q.1, q.2) :: ·) else none) = _
    rw [ih, if_pos (show keyOk (.str q.1) = true from rfl)]
    rfl
theorem b_dict {l : List (Str × D)} (h : (l.map (·.1)).Nodup) : biD "dict" [.list (l.map fun q => PyData.tuple [.str q.1, q.2])] = some (.own (.dic (enc l))) := by
  show (pairsD (l.map fun q => PyData.tuple [.str q.1, q.2])).map (fun kvs => RV.own (.dic (mergeD [] kvs))) = _
  rw [pairs_enc]
  show some (RV.own (.dic (mergeD [] (enc l)))) = _
  rw [merge_self h]
theorem zip_shift (n : Net) (c : Clk) : zipD (strL (n.regs.map (·.name))) (c.sk.map PyData.int) = (shiftPairs n c).map fun q => PyData.tuple [.str q.1, q.2] := by
  unfold zipD strL shiftPairs
  generalize n.regs = rs
  generalize c.sk = sk
  induction rs generalizing sk with
  | nil => rfl
  | cons r rs ih =>
    cases sk with
    | nil => rfl
    | cons x sk =>
      show PyData.tuple [.str r.name, .int x] :: List.zipWith _ _ _ = _ :: _
      rw [ih sk]
      rfl
theorem slc_need (r : Reg) : slcD r.toD (some 2) (some 4) = some (.d (pairD (r.su, r.ho))) := rfl
end KA

/-! KA8: the slack, the program's and the law's. -/
namespace KA
open PySem GS ND
theorem zipD_get {xs ys : List D} {j : Nat} {x : D} (h : (zipD xs ys)[j]? = some x) : ∃ u v, xs[j]? = some u ∧ ys[j]? = some v ∧ x = .tuple [u, v] := by
  unfold zipD at h
  rw [List.getElem?_zipWith] at h
  cases e1 : xs[j]? with
  | none => rw [e1] at h; cases h
  | some u =>
    cases e2 : ys[j]? with
    | none => rw [e1, e2] at h; cases h
    | some v =>
      rw [e1, e2] at h
      cases h
      exact ⟨u, v, rfl, rfl, rfl⟩
section
variable {p : Prog}
theorem r_slack_by (A : Has p) (k : Nat) (n : Net) {m : Nat} (hn : n.Ok m) (sm : Small n) (c : Clk) (hc : c.Ok n) (w : List Str) (hw : 1 ≤ w.length) (side : Str) (spot : Nat) (hs : ∀ g ∈ n.gates, spot < g.dl.length) {P : RV → Option Ob → Prop} {E : Xn → Option Ob → Prop} (q : P (.d (.int (slackOn n c w side spot))) none) :
    wpR (run p (k + 2) "slack_by" [.d n.toD, .d c.toD, .d (.tuple (strL w)), .d (.str side), .d (.int spot)]) P E := by
  refine wp_run A.f_slack_by rfl fun O hΦ hG hΛ => ?_
  have hr := sm.r
  have hl := hc.len
  show WG (exB O k_slack_by [.val n.toD, .val c.toD, .val (.tuple (strL w)), .val (.str side), .val (.int spot), .emp, .emp, .emp, .emp, .emp, .emp, .emp, .emp, .emp, .emp, .emp, .emp]) _ _
  unfold k_slack_by
  refine b_cons.mpr <| s_tset.mpr <| (e_val rfl).mpr <| w_frzd <| bind_two (x := .int c.beat) (y := .tuple (c.sk.map PyData.int)) (u := .emp) (v := .emp) rfl rfl rfl rfl ?_
  -- the shifts
  unfold q_slack_by_0
  refine b_cons.mpr <| s_set.mpr <| e_gen <| i_zip <| e_idx.mpr <| (e_val rfl).mpr <| e_con.mpr ⟨_, _, rfl, rfl, _, i_regs n, w_frzd <| (e_val rfl).mpr <| w_frzd ⟨n.regs.map Reg.toD, c.sk.map PyData.int, rfl, rfl, by rw [List.length_map, List.length_map, hl], rfl, w_wipe2 (x := .emp) (y := .emp) rfl rfl rfl rfl ?_⟩⟩
  have lz : (zipD (n.regs.map Reg.toD) (c.sk.map PyData.int)).length = n.regs.length := by rw [zipD_len, List.length_map, List.length_map, hl, Nat.min_self]
  have ls : (shiftPairs n c).length = n.regs.length := by unfold shiftPairs; rw [List.length_map, List.length_zip, hl, Nat.min_self]
  refine wp_compO (fun j acc s => acc = .dic (enc ((shiftPairs n c).take j)) ∧ s = [.val n.toD, .val c.toD, .val (.tuple (strL w)), .val (.str side), .val (.int spot), .val (.int c.beat), .val (.tuple (c.sk.map PyData.int)), .emp, .emp, .emp, .emp, .emp, .emp, .emp, .emp, .emp, .emp]) (fun j x acc s hj ⟨ea, es⟩ => ?_) (fun acc s ⟨ea, es⟩ => ?_) ⟨rfl, rfl⟩
  · subst ea es
    obtain ⟨u, v, e1, e2, rfl⟩ := zipD_get hj
    rw [List.getElem?_map] at e1 e2
    obtain ⟨r, er, rfl⟩ := some_map e1
    obtain ⟨y, ey, rfl⟩ := some_map e2
    have ez : (n.regs.zip c.sk)[j]? = some (r, y) := List.getElem?_zip_eq_some.mpr ⟨er, ey⟩
    have lt : j < (shiftPairs n c).length := by rw [ls]; exact (List.getElem?_eq_some_iff.mp er).1
    have ej : (shiftPairs n c)[j]? = some (r.name, .int y) := by unfold shiftPairs; rw [List.getElem?_map, ez]; rfl
    have tk : (shiftPairs n c).take (j + 1) = (shiftPairs n c).take j ++ [(r.name, .int y)] := by rw [List.take_add_one, ej]; rfl
    refine bind_two (x := r.toD) (y := .int y) (u := .emp) (v := .emp) rfl rfl rfl rfl <| t_nil <| a_dic <| e_idx.mpr <| (e_val rfl).mpr <| e_con.mpr ⟨_, _, rfl, rfl, .str r.name, rfl, w_frzd <| (e_val rfl).mpr <| w_frzd ⟨rfl, ?_, w_wipe2 (x := .val _) (y := .val _) rfl rfl rfl rfl ⟨?_, rfl⟩⟩⟩
    · rw [enc_len, List.length_take, sl16]; omega
    · rw [tk, put_new]
      have nd := (nd_shift hn c).sublist (List.Sublist.map _ (List.take_sublist (j + 1) (shiftPairs n c)))
      rw [tk, List.map_append] at nd
      exact fun z => (List.nodup_append.mp nd).2.2 _ z r.name (by simp) rfl
  · subst ea es
    rw [lz, ← ls, List.take_length]
    refine put_o (x := .emp) rfl rfl ?_
    -- the needs
    unfold q_slack_by_1
    refine b_cons.mpr <| s_set.mpr <| e_dmap <| i_v <| e_idx.mpr <| (e_val rfl).mpr <| e_con.mpr ⟨_, _, rfl, rfl, _, i_regs n, w_frzd ⟨n.regs.map Reg.toD, rfl, .emp, fun x => (hdD x, match slcD x (some 2) (some 4) with | some (.d d) => d | _ => .none), rfl, rfl, by rw [List.length_map, sl16]; omega, fun x hx => ?_, ?_⟩⟩
    · obtain ⟨r, _, rfl⟩ := List.mem_map.mp hx
      exact ⟨rfl, fun kvs hk => a_dic <| e_idx.mpr <| (e_val rfl).mpr <| e_con.mpr ⟨_, _, rfl, rfl, .str r.name, rfl, w_frzd <| e_slc <| (e_val rfl).mpr <| e_cons.mpr <| e_con.mpr <| e_nil.mpr ⟨_, rfl, e_cons.mpr <| e_con.mpr <| e_nil.mpr ⟨_, _, _, rfl, rfl, slc_need r, w_frzd ⟨rfl, hk, rfl, rfl⟩⟩⟩⟩⟩
    have en : (n.regs.map Reg.toD).map (fun x => (hdD x, match slcD x (some 2) (some 4) with | some (.d d) => d | _ => PyData.none)) = enc (needPairs n) := by
      unfold enc needPairs
      rw [List.map_map, List.map_map]
      rfl
    rw [en, merge_self (nd_need hn)]
    refine put_o (x := .emp) rfl rfl ?_
    -- the sums
    refine b_cons.mpr <| s_tset.mpr <| e_call <| e_cons.mpr <| (e_val rfl).mpr <| e_cons.mpr <| (e_val rfl).mpr <| e_cons.mpr <| (e_val rfl).mpr <| e_nil.mpr ⟨[.d n.toD, .d (.tuple (strL w)), .d (.int spot)], rfl, ?_⟩
    rw [hΦ]
    refine r_sums_along A k n w spot hw sm hs ⟨_, rfl, w_frzd <| bind_two (x := .int (sumsOn n w spot).1) (y := .int (sumsOn n w spot).2) (u := .emp) (v := .emp) rfl rfl rfl rfl ?_⟩
    refine b_cons.mpr <| s_par.mpr <| x_get rfl (e_idx.mpr <| (e_val rfl).mpr <| e_con.mpr ⟨_, _, rfl, rfl, _, idx_first hw, rfl, rfl⟩) (e_con.mpr ⟨rfl, rfl⟩) ?_
    rw [shift_get]
    refine w_stld <| x_get rfl (e_idx.mpr <| (e_val rfl).mpr <| e_neg <| e_con.mpr ⟨1, rfl, _, _, rfl, rfl, _, idx_last hw, rfl, rfl⟩) (e_con.mpr ⟨rfl, rfl⟩) ?_
    rw [shift_get]
    refine w_stld <| put_v (x := .emp) rfl rfl <| put_v (x := .emp) rfl rfl <| b_cons.mpr <| s_tset.mpr <| x_get rfl (e_idx.mpr <| (e_val rfl).mpr <| e_neg <| e_con.mpr ⟨1, rfl, _, _, rfl, rfl, _, idx_last hw, rfl, rfl⟩) (e_tup.mpr <| e_cons.mpr <| e_con.mpr <| e_cons.mpr <| e_con.mpr <| e_nil.mpr <| w_frzL (ds := [.int 0, .int 0]) ⟨two_le, rfl, rfl⟩) ?_
    rw [need_get]
    refine w_frzd <| bind_two (x := .int (needAt n (endOf w)).1) (y := .int (needAt n (endOf w)).2) (u := .emp) (v := .emp) rfl rfl rfl rfl ?_
    refine b_cons.mpr <| s_ret.mpr <| e_ite.mpr <| e_cmp.mpr <| (e_val rfl).mpr <| e_con.mpr ⟨_, _, rfl, rfl, _, eq_str _ _, _, rfl, ?_⟩
    unfold slackOn at q
    by_cases z : side = "late"
    · rw [if_pos z] at q
      rw [decide_eq_true z]
      exact e_bin.mpr <| e_bin.mpr <| e_bin.mpr <| e_bin.mpr <| (e_val rfl).mpr <| (e_val rfl).mpr ⟨_, _, rfl, rfl, _, rfl, (e_val rfl).mpr ⟨_, _, rfl, rfl, _, rfl, (e_val rfl).mpr ⟨_, _, rfl, rfl, _, rfl, (e_val rfl).mpr ⟨_, _, rfl, rfl, _, rfl, w_retd q⟩⟩⟩⟩
    · rw [if_neg z] at q
      rw [decide_eq_false z]
      exact e_bin.mpr <| e_bin.mpr <| e_bin.mpr <| (e_val rfl).mpr <| (e_val rfl).mpr ⟨_, _, rfl, rfl, _, rfl, (e_val rfl).mpr ⟨_, _, rfl, rfl, _, rfl, (e_val rfl).mpr ⟨_, _, rfl, rfl, _, rfl, w_retd q⟩⟩⟩
theorem r_law_slack (A : Has p) (k : Nat) (n : Net) {m : Nat} (hn : n.Ok m) (sm : Small n) (c : Clk) (hc : c.Ok n) (w : List Str) (hw : 1 ≤ w.length) (side : Str) (spot : Nat) (hs : ∀ g ∈ n.gates, spot < g.dl.length) {P : RV → Option Ob → Prop} {E : Xn → Option Ob → Prop} (q : P (.d (.int (slackOn n c w side spot))) none) :
    wpR (run p (k + 2) "_law_slack" [.d n.toD, .d c.toD, .d (.tuple (strL w)), .d (.str side), .d (.int spot)]) P E := by
  refine wp_run A.f_law_slack rfl fun O hΦ hG hΛ => ?_
  have hr := sm.r
  have hl := hc.len
  show WG (exB O k_law_slack [.val n.toD, .val c.toD, .val (.tuple (strL w)), .val (.str side), .val (.int spot), .emp, .emp, .emp, .emp, .emp, .emp, .emp, .emp, .emp]) _ _
  unfold k_law_slack q_law_slack_0 q_law_slack_1
  refine b_cons.mpr <| s_set.mpr <| e_bi.mpr <| e_cons.mpr <| e_lzip <| e_map <| i_v <| e_idx.mpr <| (e_val rfl).mpr <| e_con.mpr ⟨_, _, rfl, rfl, _, i_regs n, w_frzd ⟨n.regs.map Reg.toD, rfl, .emp, hdD, rfl, rfl, by rw [List.length_map, sl16]; omega, fun x hx => ?_, ?_⟩⟩
  · obtain ⟨r, _, rfl⟩ := List.mem_map.mp hx
    exact e_idx.mpr <| (e_val rfl).mpr <| e_con.mpr ⟨_, _, rfl, rfl, .str r.name, rfl, w_frzd ⟨rfl, rfl⟩⟩
  rw [hd_regs]
  refine w_frzo <| e_idx.mpr <| (e_val rfl).mpr <| e_con.mpr ⟨_, _, rfl, rfl, .tuple (c.sk.map PyData.int), rfl, w_frzd ⟨strL (n.regs.map (·.name)), c.sk.map PyData.int, rfl, rfl, by rw [strL, List.length_map, List.length_map, List.length_map, hl], ?_⟩⟩
  rw [zip_shift]
  refine e_nil.mpr ⟨_, b_dict (nd_shift hn c), put_o (x := .emp) rfl rfl ?_⟩
  refine b_cons.mpr <| s_set.mpr <| e_bi.mpr <| e_cons.mpr <| e_map <| i_v <| e_idx.mpr <| (e_val rfl).mpr <| e_con.mpr ⟨_, _, rfl, rfl, _, i_regs n, w_frzd ⟨n.regs.map Reg.toD, rfl, .emp, fun x => .tuple [hdD x, match slcD x (some 2) (some 4) with | some (.d d) => d | _ => .none], rfl, rfl, by rw [List.length_map, sl16]; omega, fun x hx => ?_, ?_⟩⟩
  · obtain ⟨r, _, rfl⟩ := List.mem_map.mp hx
    exact e_tup.mpr <| e_cons.mpr <| e_idx.mpr <| (e_val rfl).mpr <| e_con.mpr ⟨_, _, rfl, rfl, .str r.name, rfl, e_cons.mpr <| e_slc <| (e_val rfl).mpr <| e_cons.mpr <| e_con.mpr <| e_nil.mpr ⟨_, rfl, e_cons.mpr <| e_con.mpr <| e_nil.mpr ⟨_, _, _, rfl, rfl, slc_need r, e_nil.mpr <| w_frzL (ds := [.str r.name, pairD (r.su, r.ho)]) ⟨two_le, w_frzd ⟨rfl, rfl⟩⟩⟩⟩⟩
  have en : (n.regs.map Reg.toD).map (fun x => PyData.tuple [hdD x, match slcD x (some 2) (some 4) with | some (.d d) => d | _ => PyData.none]) = (needPairs n).map fun q => PyData.tuple [.str q.1, q.2] := by
    unfold needPairs
    rw [List.map_map, List.map_map]
    rfl
  rw [en]
  refine e_nil.mpr ⟨_, b_dict (nd_need hn), put_o (x := .emp) rfl rfl ?_⟩
  refine b_cons.mpr <| s_par.mpr <| x_get rfl (e_idx.mpr <| (e_val rfl).mpr <| e_con.mpr ⟨_, _, rfl, rfl, _, idx_first hw, rfl, rfl⟩) (e_con.mpr ⟨rfl, rfl⟩) ?_
  rw [shift_get]
  refine w_stld <| x_get rfl (e_idx.mpr <| (e_val rfl).mpr <| e_neg <| e_con.mpr ⟨1, rfl, _, _, rfl, rfl, _, idx_last hw, rfl, rfl⟩) (e_con.mpr ⟨rfl, rfl⟩) ?_
  rw [shift_get]
  refine w_stld <| put_v (x := .emp) rfl rfl <| put_v (x := .emp) rfl rfl <| b_cons.mpr <| s_tset.mpr <| x_get rfl (e_idx.mpr <| (e_val rfl).mpr <| e_neg <| e_con.mpr ⟨1, rfl, _, _, rfl, rfl, _, idx_last hw, rfl, rfl⟩) (e_tup.mpr <| e_cons.mpr <| e_con.mpr <| e_cons.mpr <| e_con.mpr <| e_nil.mpr <| w_frzL (ds := [.int 0, .int 0]) ⟨two_le, rfl, rfl⟩) ?_
  rw [need_get]
  refine w_frzd <| bind_two (x := .int (needAt n (endOf w)).1) (y := .int (needAt n (endOf w)).2) (u := .emp) (v := .emp) rfl rfl rfl rfl ?_
  refine b_cons.mpr <| s_tset.mpr <| e_call <| e_cons.mpr <| (e_val rfl).mpr <| e_cons.mpr <| (e_val rfl).mpr <| e_cons.mpr <| (e_val rfl).mpr <| e_nil.mpr ⟨[.d n.toD, .d (.tuple (strL w)), .d (.int spot)], rfl, ?_⟩
  rw [hΦ]
  refine r_law_sums A k n w spot hw sm hs ⟨_, rfl, w_frzd <| bind_two (x := .int (sumsOn n w spot).1) (y := .int (sumsOn n w spot).2) (u := .emp) (v := .emp) rfl rfl rfl rfl ?_⟩
  refine b_cons.mpr <| s_ife.mpr <| e_cmp.mpr <| (e_val rfl).mpr <| e_con.mpr ⟨_, _, rfl, rfl, _, eq_str _ _, _, rfl, ?_⟩
  unfold slackOn at q
  by_cases z : side = "late"
  · rw [if_pos z] at q
    rw [decide_eq_true z]
    exact b_cons.mpr <| s_ret.mpr <| e_bin.mpr <| e_bin.mpr <| e_bin.mpr <| e_bin.mpr <| (e_val rfl).mpr <| e_idx.mpr <| (e_val rfl).mpr <| e_con.mpr ⟨_, _, rfl, rfl, .int c.beat, rfl, _, _, rfl, rfl, _, rfl, (e_val rfl).mpr ⟨_, _, rfl, rfl, _, rfl, (e_val rfl).mpr ⟨_, _, rfl, rfl, _, rfl, (e_val rfl).mpr ⟨_, _, rfl, rfl, _, rfl, w_retd q⟩⟩⟩⟩
  · rw [if_neg z] at q
    rw [decide_eq_false z]
    exact b_nil.mpr <| b_cons.mpr <| s_ret.mpr <| e_bin.mpr <| e_bin.mpr <| e_bin.mpr <| (e_val rfl).mpr <| (e_val rfl).mpr ⟨_, _, rfl, rfl, _, rfl, (e_val rfl).mpr ⟨_, _, rfl, rfl, _, rfl, (e_val rfl).mpr ⟨_, _, rfl, rfl, _, rfl, w_retd q⟩⟩⟩
theorem r_delays_of (A : Has p) (C : Con p) (k : Nat) (n : Net) {m : Nat} (hn : n.Ok m) (sm : Small n) (w : List Str) (hw : PathOf n w) (lw : w.length ≤ 1000000) (spot : Nat) (hs : spot < corners n) {P : RV → Option Ob → Prop} {E : Xn → Option Ob → Prop} (q : P (.d (pairD (sumsOn n w spot))) none) :
    wpR (run p (k + 4) "delays_of" [.d n.toD, .d (.tuple (strL w)), .d (.int spot)]) P E := by
  have l2 := hw.len
  have hs' : ∀ g ∈ n.gates, spot < g.dl.length := fun g hg => by rw [(net_dl hn g hg).1]; exact hs
  refine wp_run A.f_delays_of rfl fun O hΦ hG hΛ => ?_
  show WG (exB O k_delays_of [.val n.toD, .val (.tuple (strL w)), .val (.int spot)]) _ _
  unfold k_delays_of
  refine b_cons.mpr <| s_ex.mpr <| e_call <| e_cons.mpr <| (e_val rfl).mpr <| e_cons.mpr <| (e_val rfl).mpr <| e_nil.mpr ⟨[.d n.toD, .d (.tuple (strL w))], rfl, ?_⟩
  rw [hΦ]
  refine r_need_path A C k n hn sm w hw lw ⟨_, rfl, b_cons.mpr <| s_ex.mpr <| e_call <| e_cons.mpr <| (e_val rfl).mpr <| e_cons.mpr <| (e_val rfl).mpr <| e_nil.mpr ⟨[.d n.toD, .d (.int spot)], rfl, ?_⟩⟩
  rw [hΦ]
  refine r_need_corner A k n spot hs ⟨_, rfl, b_cons.mpr <| s_ret.mpr <| e_call <| e_cons.mpr <| (e_val rfl).mpr <| e_cons.mpr <| (e_val rfl).mpr <| e_cons.mpr <| (e_val rfl).mpr <| e_nil.mpr ⟨[.d n.toD, .d (.tuple (strL w)), .d (.int spot)], rfl, ?_⟩⟩
  rw [hΦ]
  exact r_sums_along A (k + 2) n w spot (by omega) sm hs' ⟨_, rfl, w_retd q⟩
theorem r_slack_along (A : Has p) (C : Con p) (k : Nat) (n : Net) {m : Nat} (hn : n.Ok m) (sm : Small n) (c : Clk) (hc : c.Ok n) (w : List Str) (hw : PathOf n w) (lw : w.length ≤ 1000000) (side : Str) (hf : Fits n side (endOf w)) (spot : Nat) (hs : spot < corners n) {P : RV → Option Ob → Prop} {E : Xn → Option Ob → Prop} (q : P (.d (.int (slackOn n c w side spot))) none) :
    wpR (run p (k + 5) "slack_along" [.d n.toD, .d c.toD, .d (.tuple (strL w)), .d (.str side), .d (.int spot)]) P E := by
  have l2 := hw.len
  have hs' : ∀ g ∈ n.gates, spot < g.dl.length := fun g hg => by rw [(net_dl hn g hg).1]; exact hs
  refine wp_run A.f_slack_along rfl fun O hΦ hG hΛ => ?_
  show WG (exB O k_slack_along [.val n.toD, .val c.toD, .val (.tuple (strL w)), .val (.str side), .val (.int spot)]) _ _
  unfold k_slack_along
  refine b_cons.mpr <| s_ex.mpr <| e_call <| e_cons.mpr <| (e_val rfl).mpr <| e_cons.mpr <| (e_val rfl).mpr <| e_nil.mpr ⟨[.d n.toD, .d c.toD], rfl, ?_⟩
  rw [hΦ]
  refine r_need_clock A C k n c hc sm ⟨_, rfl, b_cons.mpr <| s_ex.mpr <| e_call <| e_cons.mpr <| (e_val rfl).mpr <| e_cons.mpr <| (e_val rfl).mpr <| e_nil.mpr ⟨[.d n.toD, .d (.tuple (strL w))], rfl, ?_⟩⟩
  rw [hΦ]
  refine r_need_path A C (k + 1) n hn sm w hw lw ⟨_, rfl, b_cons.mpr <| s_ife.mpr <| e_not.mpr <| e_call <| e_cons.mpr <| (e_val rfl).mpr <| e_cons.mpr <| (e_val rfl).mpr <| e_cons.mpr <| e_idx.mpr <| (e_val rfl).mpr <| e_neg <| e_con.mpr ⟨1, rfl, _, _, rfl, rfl, _, idx_last (by omega), e_nil.mpr ⟨[.d n.toD, .d (.str side), .d (.str (endOf w))], rfl, ?_⟩⟩⟩
  rw [hΦ]
  refine r_fits_end A (k + 2) n sm side (endOf w) hf ⟨_, rfl, true, rfl, false, rfl, b_nil.mpr <| b_cons.mpr <| s_ex.mpr <| e_call <| e_cons.mpr <| (e_val rfl).mpr <| e_cons.mpr <| (e_val rfl).mpr <| e_nil.mpr ⟨[.d n.toD, .d (.int spot)], rfl, ?_⟩⟩
  rw [hΦ]
  refine r_need_corner A (k + 1) n spot hs ⟨_, rfl, b_cons.mpr <| s_ret.mpr <| e_call <| e_cons.mpr <| (e_val rfl).mpr <| e_cons.mpr <| (e_val rfl).mpr <| e_cons.mpr <| (e_val rfl).mpr <| e_cons.mpr <| (e_val rfl).mpr <| e_cons.mpr <| (e_val rfl).mpr <| e_nil.mpr ⟨[.d n.toD, .d c.toD, .d (.tuple (strL w)), .d (.str side), .d (.int spot)], rfl, ?_⟩⟩
  rw [hΦ]
  exact r_slack_by A (k + 2) n hn sm c hc w (by omega) side spot hs' ⟨_, rfl, w_retd q⟩
end
end KA

/-! KA9: checks, all paths. -/
namespace KA
open PySem GS ND
theorem plainA_of {xs : List D} (h : ∀ x ∈ xs, plainD x = true) : plainA xs = true := by
  induction xs with
  | nil => rfl
  | cons x r ih => rw [plainA, h x List.mem_cons_self, ih fun y hy => h y (List.mem_cons_of_mem _ hy)]; rfl
theorem depthA_of {xs : List D} {k : Nat} (h : ∀ x ∈ xs, x.depth ≤ k) : PyData.depthAll xs ≤ k := by
  induction xs with
  | nil => exact Nat.zero_le _
  | cons x r ih =>
    rw [PyData.depthAll]
    exact Nat.max_le.mpr ⟨h x List.mem_cons_self, ih fun y hy => h y (List.mem_cons_of_mem _ hy)⟩
theorem sort_ok {xs : List D} (h1 : ∀ x ∈ xs, plainD x = true ∧ tupNe x = true ∧ x.depth ≤ 60) (h2 : ∀ x ∈ xs, ∀ y ∈ xs, PySem.W.alike x y = true) : sortB xs = true := by
  unfold sortB
  rw [Bool.and_eq_true, Bool.and_eq_true, Bool.and_eq_true, Bool.or_eq_true, decide_eq_true_eq]
  exact ⟨⟨⟨plainA_of fun x hx => (h1 x hx).1, List.all_eq_true.mpr fun x hx => List.all_eq_true.mpr fun y hy => h2 x hx y hy⟩, .inl (List.all_eq_true.mpr fun x hx => (h1 x hx).2.1)⟩, depthA_of fun x hx => (h1 x hx).2.2⟩
theorem b_sorted {xs : List D} (h : sortB xs = true) : biD "sorted" [.list xs] = some (.own (.lst (sortD xs))) := by
  show (if sortB xs then some (RV.own (.lst (sortD xs))) else none) = _
  rw [if_pos h]
theorem sort_mem {xs : List D} {x : D} (h : x ∈ sortD xs) : x ∈ xs := (List.mergeSort_perm xs _).mem_iff.mp h
theorem depth_strs (l : List Str) : PyData.depthAll (strL l) = 0 := by
  induction l with
  | nil => rfl
  | cons x r ih =>
    show max _ (PyData.depthAll (strL r)) = 0
    rw [ih]
    rfl
def checkD (side e : Str) (spot : Nat) : D := .tuple [.str side, .str e, .int spot]
theorem check_ok {xs : List D} (h : ∀ x ∈ xs, ∃ s e k, x = checkD s e k) : sortB xs = true := by
  refine sort_ok (fun x hx => ?_) fun x hx y hy => ?_
  · obtain ⟨s, e, k, rfl⟩ := h x hx
    refine ⟨rfl, rfl, ?_⟩
    simp [checkD, PyData.depth, PyData.depthAll]
  · obtain ⟨s, e, k, rfl⟩ := h x hx
    obtain ⟨s', e', k', rfl⟩ := h y hy
    simp [checkD, PySem.W.alike, PySem.W.alikeAll]
def wD (w : List Str) : D := .tuple (strL w)
theorem alike_strs : ∀ a b : List Str, PySem.W.alikeAll (strL a) (strL b) = true
  | [], _ => by simp [strL, PySem.W.alikeAll]
  | _ :: _, [] => by simp [strL, PySem.W.alikeAll]
  | _ :: a, _ :: b => by
    show PySem.W.alikeAll (PyData.str _ :: strL a) (PyData.str _ :: strL b) = true
    rw [PySem.W.alikeAll, alike_strs a b]
    simp [PySem.W.alike]
theorem ways_ok {xs : List D} (h : ∀ x ∈ xs, ∃ w : List Str, 1 ≤ w.length ∧ x = wD w) : sortB xs = true := by
  refine sort_ok (fun x hx => ?_) fun x hx y hy => ?_
  · obtain ⟨w, l, rfl⟩ := h x hx
    refine ⟨plain_strs w, ?_, ?_⟩
    · cases w with
      | nil => cases l
      | cons _ _ => rfl
    · show (PyData.tuple (strL w)).depth ≤ 60
      rw [PyData.depth, depth_strs]
      decide
  · obtain ⟨w, _, rfl⟩ := h x hx
    obtain ⟨v, _, rfl⟩ := h y hy
    show PySem.W.alike (.tuple (strL w)) (.tuple (strL v)) = true
    rw [PySem.W.alike]
    exact alike_strs w v
section
variable {p : Prog}
theorem r_law_checks (A : Has p) (k : Nat) (n : Net) {m : Nat} (hn : n.Ok m) (sm : Small n) {P : RV → Option Ob → Prop} {E : Xn → Option Ob → Prop} (q : ∀ ys : List D, (∀ y ∈ ys, ∃ s e j, y = checkD s e j ∧ Fits n s e) → ys.length ≤ 100 → P (.own (.lst ys)) none) :
    wpR (run p (k + 2) "_law_checks" [.d n.toD]) P E := by
  refine wp_run A.f_law_checks rfl fun O hΦ hG hΛ => ?_
  have hr := sm.r
  have ho := sm.o
  obtain ⟨c1, c3⟩ := corners_le hn
  show WG (exB O k_law_checks [.val n.toD, .emp, .emp, .emp, .emp]) _ _
  unfold k_law_checks q_law_checks_0 q_law_checks_1
  -- the ends on their sides
  refine b_cons.mpr <| s_set.mpr <| e_bin.mpr <| e_map <| i_v <| e_idx.mpr <| (e_val rfl).mpr <| e_con.mpr ⟨_, _, rfl, rfl, _, i_regs n, w_frzd ⟨n.regs.map Reg.toD, rfl, .emp, fun x => .tuple [.str "early", hdD x], rfl, rfl, by rw [List.length_map, sl16]; omega, fun x hx => ?_, ?_⟩⟩
  · obtain ⟨r, _, rfl⟩ := List.mem_map.mp hx
    exact e_tup.mpr <| e_cons.mpr <| e_con.mpr <| e_cons.mpr <| e_idx.mpr <| (e_val rfl).mpr <| e_con.mpr ⟨_, _, rfl, rfl, .str r.name, rfl, e_nil.mpr <| w_frzL (ds := [.str "early", .str r.name]) ⟨two_le, w_frzd ⟨rfl, rfl⟩⟩⟩
  refine e_map <| i_v <| e_bin.mpr <| e_bi.mpr <| e_cons.mpr <| e_idx.mpr <| (e_val rfl).mpr <| e_con.mpr ⟨_, _, rfl, rfl, _, i_regs n, e_nil.mpr ⟨.own (.lst (n.regs.map Reg.toD)), rfl, e_bi.mpr <| e_cons.mpr <| e_idx.mpr <| (e_val rfl).mpr <| e_con.mpr ⟨_, _, rfl, rfl, _, i_outs n, e_nil.mpr ⟨.own (.lst (n.outs.map outD)), rfl, _, _, rfl, rfl, _, add_lists _ _ (by rw [List.length_map, List.length_map, sl16]; omega), w_frzo ⟨n.regs.map Reg.toD ++ n.outs.map outD, rfl, .emp, fun x => .tuple [.str "late", hdD x], rfl, rfl, by rw [List.length_append, List.length_map, List.length_map, sl16]; omega, fun x hx => ?_, ?_⟩⟩⟩⟩⟩
  · have : ∃ z r, x = .tuple (z :: r) := by
      rcases List.mem_append.mp hx with h | h
      · obtain ⟨r, _, rfl⟩ := List.mem_map.mp h; exact ⟨_, _, rfl⟩
      · obtain ⟨r, _, rfl⟩ := List.mem_map.mp h; exact ⟨_, _, rfl⟩
    obtain ⟨z, r, rfl⟩ := this
    exact e_tup.mpr <| e_cons.mpr <| e_con.mpr <| e_cons.mpr <| e_idx.mpr <| (e_val rfl).mpr <| e_con.mpr ⟨_, _, rfl, rfl, z, idx0 z r, e_nil.mpr <| w_frzL (ds := [.str "late", z]) ⟨two_le, w_frzd ⟨rfl, rfl⟩⟩⟩
  have some1 : ∀ x ∈ (n.regs.map Reg.toD).map (fun x => PyData.tuple [.str "early", hdD x]) ++ (n.regs.map Reg.toD ++ n.outs.map outD).map (fun x => PyData.tuple [.str "late", hdD x]), ∃ s e, x = .tuple [.str s, .str e] ∧ Fits n s e := by
    intro x hx
    rcases List.mem_append.mp hx with h | h
    · obtain ⟨y, hy, rfl⟩ := List.mem_map.mp h
      obtain ⟨r, hr, rfl⟩ := List.mem_map.mp hy
      exact ⟨"early", r.name, rfl, .inr ⟨rfl, List.mem_map.mpr ⟨r, hr, rfl⟩⟩⟩
    · obtain ⟨y, hy, rfl⟩ := List.mem_map.mp h
      rcases List.mem_append.mp hy with hy | hy
      · obtain ⟨r, hr, rfl⟩ := List.mem_map.mp hy
        exact ⟨"late", r.name, rfl, .inl ⟨rfl, List.mem_append_left _ (List.mem_map.mpr ⟨r, hr, rfl⟩)⟩⟩
      · obtain ⟨r, hr, rfl⟩ := List.mem_map.mp hy
        exact ⟨"late", r.1, rfl, .inl ⟨rfl, List.mem_append_right _ (List.mem_map.mpr ⟨r, hr, rfl⟩)⟩⟩
  have len1 : ((n.regs.map Reg.toD).map (fun x => PyData.tuple [.str "early", hdD x]) ++ (n.regs.map Reg.toD ++ n.outs.map outD).map (fun x => PyData.tuple [.str "late", hdD x])).length ≤ 12 := by
    simp only [List.length_append, List.length_map]
    omega
  refine ⟨_, _, rfl, rfl, _, add_lists _ _ (by rw [← List.length_append, sl16]; omega), ?_⟩
  generalize (n.regs.map Reg.toD).map (fun x => PyData.tuple [.str "early", hdD x]) ++ (n.regs.map Reg.toD ++ n.outs.map outD).map (fun x => PyData.tuple [.str "late", hdD x]) = some0 at some1 len1
  refine put_o (x := .emp) rfl rfl <| b_cons.mpr <| s_set.mpr <| e_lst.mpr <| e_nil.mpr <| w_frzL (ds := []) ⟨Nat.zero_le _, put_o (x := .emp) rfl rfl ?_⟩
  -- at each corner
  unfold q_law_checks_3 q_law_checks_2
  refine b_cons.mpr <| s_for <| i_rng1 (n := corners n) (by omega) <| e_call <| e_cons.mpr <| (e_val rfl).mpr <| e_nil.mpr ⟨[.d n.toD], rfl, ?_⟩
  rw [hΦ]
  refine r_law_corners A k n ⟨_, rfl, rfl, ?_⟩
  refine ⟨fun j s => ∃ (fs : List D) (x1 x3 : Sl), s = [.val n.toD, x1, .own (.lst fs), x3, .emp] ∧ LSl x1 some0 ∧ isIo (some x3) = false ∧ fs.length ≤ 12 * j ∧ ∀ y ∈ fs, ∃ s e j, y = checkD s e j ∧ Fits n s e,
    ⟨[], _, .emp, rfl, .inl rfl, rfl, Nat.zero_le _, fun _ z => nomatch z⟩, fun j x s hx ⟨fs, x1, x3, es, l1, i3, lf, hf⟩ => ?_, fun s ⟨fs, x1, x3, es, l1, i3, lf, hf⟩ => ?_⟩
  · subst es
    have hj : j < corners n := by simpa using (List.getElem?_eq_some_iff.mp hx).1
    have ex : x = .int (j : Int) := by
      rw [List.getElem?_map, List.getElem?_range hj] at hx
      cases hx
      rfl
    subst ex
    refine bind_nm (x := x3) rfl i3 <| b_cons.mpr <| s_set.mpr <| e_bin.mpr <| (e_own rfl).mpr <| e_map <| i_lv rfl l1 ⟨.emp, fun y => match y with | .tuple xs => .tuple (xs ++ [.int (j : Int)]) | y => y, rfl, rfl, by rw [sl16]; omega, fun y hy => ?_, ?_⟩
    · obtain ⟨s, e, rfl, _⟩ := some1 y hy
      exact e_bin.mpr <| (e_val rfl).mpr <| e_tup.mpr <| e_cons.mpr <| (e_val rfl).mpr <| e_nil.mpr <| w_frzL (ds := [.int (j : Int)]) ⟨one_size, _, _, rfl, rfl, _, add_tups _ _ (by rw [sl16]; show 2 + 1 ≤ 16777216; decide), w_frzd ⟨rfl, rfl⟩⟩
    · refine ⟨_, _, rfl, rfl, _, add_lists _ _ (by rw [List.length_map, sl16]; omega), put_o (x := .own (.lst fs)) rfl rfl <| b_nil.mpr ⟨_, _, _, rfl, .inr rfl, rfl, by rw [List.length_append, List.length_map]; omega, fun y hy => ?_⟩⟩
      rcases List.mem_append.mp hy with hy | hy
      · exact hf y hy
      · obtain ⟨z, hz, rfl⟩ := List.mem_map.mp hy
        obtain ⟨s, e, rfl, h⟩ := some1 z hz
        exact ⟨s, e, j, rfl, h⟩
  · subst es
    rw [List.length_map, List.length_range] at lf
    have so : sortB fs = true := check_ok fun x hx => let ⟨s, e, j, h, _⟩ := hf x hx; ⟨s, e, j, h⟩
    exact b_cons.mpr <| s_ret.mpr <| e_bi.mpr <| e_cons.mpr <| (e_own rfl).mpr <| e_nil.mpr ⟨_, b_sorted so, w_reto <| q _ (fun y hy => hf y (sort_mem hy)) (by unfold sortD; rw [List.length_mergeSort]; omega)⟩
end
end KA

/-! KA10: all paths of a netlist. -/
namespace KA
open PySem GS ND
/-! ### what a walk from a name costs -/
def costG (f : Str → Nat) (g : Gate) : Str → Nat := fun x => if x = g.name then 1 + (g.pins.map f).sum else f x
def cost (ord : List Gate) : Str → Nat := ord.foldl costG fun _ => 1
theorem cost_skip (y : Str) : ∀ (b : List Gate) (f : Str → Nat), y ∉ b.map (·.name) → b.foldl costG f y = f y
  | [], _, _ => rfl
  | g :: b, f, h => by
    rw [List.map_cons, List.mem_cons, not_or] at h
    show b.foldl costG (costG f g) y = f y
    rw [cost_skip y b _ h.2]
    exact if_neg h.1
theorem cost_gate {starts : List Str} {ord : List Gate} {c : Nat} (rk : Ranked c starts ord) (nd : (starts ++ ord.map (·.name)).Nodup) {g : Gate} (hg : g ∈ ord) : cost ord g.name = 1 + (g.pins.map (cost ord)).sum := by
  obtain ⟨a, b, e⟩ := List.append_of_mem hg
  have ok := rk a b g e
  rw [e, List.map_append, List.map_cons, ← List.append_assoc] at nd
  obtain ⟨n1, n2, n3⟩ := List.nodup_append.mp nd
  have gb : g.name ∉ b.map (·.name) := (List.nodup_cons.mp n2).1
  have e1 : cost ord g.name = 1 + (g.pins.map (cost a)).sum := by
    unfold cost
    rw [e, List.foldl_append]
    show b.foldl costG (costG (a.foldl costG fun _ => 1) g) g.name = _
    rw [cost_skip _ b _ gb]
    exact if_pos rfl
  have e2 : g.pins.map (cost ord) = g.pins.map (cost a) := by
    apply List.map_congr_left
    intro y hy
    have hy := ok.ins y hy
    have ny : y ≠ g.name := fun z => n3 y hy g.name List.mem_cons_self z
    have nb : y ∉ b.map (·.name) := fun z => n3 y hy y (List.mem_cons_of_mem _ z) rfl
    unfold cost
    rw [e, List.foldl_append]
    show b.foldl costG (costG (a.foldl costG fun _ => 1) g) y = _
    rw [cost_skip _ b _ nb]
    exact if_neg ny
  rw [e1, e2]
theorem cost_le : ∀ (ord : List Gate) (f : Str → Nat) (B : Nat), 1 ≤ B → (∀ g ∈ ord, g.pins.length ≤ 3) → (∀ x, 1 ≤ f x ∧ f x ≤ B) → ∀ x, 1 ≤ ord.foldl costG f x ∧ ord.foldl costG f x ≤ B * 4 ^ ord.length
  | [], f, B, hB, _, hf, x => by simpa using hf x
  | g :: ord, f, B, hB, hp, hf, x => by
    have lp := hp g List.mem_cons_self
    have sum : (g.pins.map f).sum ≤ B * g.pins.length := by
      generalize g.pins = ps
      induction ps with
      | nil => exact Nat.zero_le _
      | cons y r ih =>
        rw [List.map_cons, List.sum_cons, List.length_cons, Nat.mul_add, Nat.mul_one]
        have := (hf y).2
        omega
    have s3 : B * g.pins.length ≤ B * 3 := Nat.mul_le_mul_left _ lp
    have hf' : ∀ y, 1 ≤ costG f g y ∧ costG f g y ≤ B * 4 := fun y => by
      unfold costG
      by_cases e : y = g.name
      · rw [if_pos e]; omega
      · rw [if_neg e]
        have := hf y
        omega
    have := cost_le ord (costG f g) (B * 4) (by omega) (fun y hy => hp y (List.mem_cons_of_mem _ hy)) hf' x
    rw [List.length_cons, Nat.pow_succ, Nat.mul_comm (4 ^ ord.length) 4, ← Nat.mul_assoc]
    exact this
/-- a path, its head perhaps a gate -/
structure PTail (n : Net) (w : List Str) : Prop where
  ex : ∃ (first : Str) (mids : List Str) (e : Str), w = first :: (mids ++ [e]) ∧ first ∈ n.starts ++ n.gates.map (·.name) ∧ Chain n first mids ∧ (e, lastOf first mids) ∈ endPairs n
def hd (w : List Str) : Str := w.headD ""
def weigh (f : Str → Nat) (ws : List (List Str)) : Nat := (ws.map fun w => f (hd w)).sum
theorem weigh_app (f : Str → Nat) (a b : List (List Str)) : weigh f (a ++ b) = weigh f a + weigh f b := by
  unfold weigh
  rw [List.map_append, List.sum_append]
theorem weigh_ge {f : Str → Nat} (h : ∀ x, 1 ≤ f x) : ∀ ws : List (List Str), ws.length ≤ weigh f ws
  | [] => Nat.le_refl _
  | w :: r => by
    have := weigh_ge h r
    have := h (hd w)
    show r.length + 1 ≤ f (hd w) + weigh f r
    omega
theorem le_sum (f : Str → Nat) {y : Str} : ∀ {l : List Str}, y ∈ l → f y ≤ (l.map f).sum
  | x :: r, h => by
    rw [List.map_cons, List.sum_cons]
    rcases List.mem_cons.mp h with rfl | h
    · omega
    · have := le_sum f h
      omega
theorem idx_head {w : List Str} {f : Str} {r : List Str} (e : w = f :: r) : idxD (wD w) (.int 0) = some (.str f) := by
  rw [e]
  exact idx0 _ _
section
variable {p : Prog}
theorem r_law_ways (A : Has p) (k : Nat) (n : Net) {m : Nat} (hn : n.Ok m) (sm : Small n) (h9 : n.gates.length ≤ 9) {P : RV → Option Ob → Prop} {E : Xn → Option Ob → Prop} (q : ∀ ws : List (List Str), (∀ w ∈ ws, PathOf n w ∧ w.length ≤ 300000) → ws.length ≤ 3000000 → P (.own (.lst (ws.map wD))) none) :
    wpR (run p (k + 1) "_law_ways" [.d n.toD]) P E := by
  obtain ⟨c, ord, c1, c3, pm, rk, _⟩ := hn.order
  have lord : ord.length ≤ 9 := by rw [pm.length_eq]; exact h9
  have names := hn.nodup
  have ndo : (n.starts ++ ord.map (·.name)).Nodup := by
    have e : (n.starts ++ ord.map (·.name)).Perm (n.starts ++ n.gates.map (·.name)) := List.Perm.append_left _ (pm.map _)
    refine e.nodup_iff.mpr (names.sublist ?_)
    unfold Net.starts
    exact (List.sublist_append_left _ _).append (List.Sublist.refl _)
  have p3 : ∀ g ∈ ord, g.pins.length ≤ 3 := fun g hg => by
    obtain ⟨a, b, e⟩ := List.append_of_mem hg
    exact (rk a b g e).few
  have cb : ∀ x, 1 ≤ cost ord x ∧ cost ord x ≤ 262144 := fun x => by
    have := cost_le ord (fun _ => 1) 1 (Nat.le_refl _) p3 (fun _ => ⟨Nat.le_refl _, Nat.le_refl _⟩) x
    have le : 4 ^ ord.length ≤ 4 ^ 9 := Nat.pow_le_pow_right (by decide) lord
    have e : (4 : Nat) ^ 9 = 262144 := by decide
    rw [Nat.one_mul] at this
    exact ⟨this.1, by have := this.2; unfold cost; omega⟩
  generalize hf : cost ord = f at cb
  have fg : ∀ g ∈ n.gates, f g.name = 1 + (g.pins.map f).sum := fun g hg => by rw [← hf]; exact cost_gate rk ndo (pm.mem_iff.mpr hg)
  have pins : ∀ g ∈ n.gates, ∀ x ∈ g.pins, x ∈ n.starts ++ n.gates.map (·.name) := fun g hg x hx => by
    obtain ⟨a, b, e⟩ := List.append_of_mem (pm.mem_iff.mpr hg)
    have := (rk a b g e).ins x hx
    rcases List.mem_append.mp this with z | z
    · exact List.mem_append_left _ z
    · refine List.mem_append_right _ ?_
      obtain ⟨y, hy, rfl⟩ := List.mem_map.mp z
      exact List.mem_map.mpr ⟨y, pm.mem_iff.mp (by rw [e]; exact List.mem_append_left _ hy), rfl⟩
  have np : ∀ g ∈ n.gates, g.pins.length ≤ 3 := fun g hg => p3 g (pm.mem_iff.mpr hg)
  refine wp_run A.f_law_ways rfl fun O hΦ hG hΛ => ?_
  have h1 := sm.g
  have h2 := sm.r
  have h3 := sm.o
  show WG (exB O k_law_ways [.val n.toD, .emp, .emp, .emp, .emp, .emp, .emp, .emp]) _ _
  unfold k_law_ways q_law_ways_0 q_law_ways_1
  refine b_cons.mpr <| s_set.mpr <| e_bi.mpr <| e_cons.mpr <| e_map <| i_v <| e_idx.mpr <| (e_val rfl).mpr <| e_con.mpr ⟨_, _, rfl, rfl, _, i_gates n, w_frzd ⟨n.gates.map Gate.toD, rfl, .emp, fun x => .tuple [hdD x, (idxD x (.int 2)).getD .none], rfl, rfl, by rw [List.length_map, sl16]; omega, fun x hx => ?_, ?_⟩⟩
  · obtain ⟨g, _, rfl⟩ := List.mem_map.mp hx
    exact e_tup.mpr <| e_cons.mpr <| e_idx.mpr <| (e_val rfl).mpr <| e_con.mpr ⟨_, _, rfl, rfl, .str g.name, rfl, e_cons.mpr <| e_idx.mpr <| (e_val rfl).mpr <| e_con.mpr ⟨_, _, rfl, rfl, .tuple (strL g.pins), rfl, e_nil.mpr <| w_frzL (ds := [.str g.name, .tuple (strL g.pins)]) ⟨two_le, w_frzd ⟨rfl, rfl⟩⟩⟩⟩
  have eg : (n.gates.map Gate.toD).map (fun x => PyData.tuple [hdD x, (idxD x (.int 2)).getD .none]) = (gatePairs n).map fun q => PyData.tuple [.str q.1, q.2] := by
    unfold gatePairs
    rw [List.map_map, List.map_map]
    rfl
  rw [eg]
  refine e_nil.mpr ⟨_, b_dict (nd_gate hn), put_o (x := .emp) rfl rfl ?_⟩
  refine b_cons.mpr <| s_par.mpr <| e_map <| i_v <| e_bin.mpr <| e_bi.mpr <| e_cons.mpr <| e_idx.mpr <| (e_val rfl).mpr <| e_con.mpr ⟨_, _, rfl, rfl, _, i_regs n, e_nil.mpr ⟨.own (.lst (n.regs.map Reg.toD)), rfl, e_bi.mpr <| e_cons.mpr <| e_idx.mpr <| (e_val rfl).mpr <| e_con.mpr ⟨_, _, rfl, rfl, _, i_outs n, e_nil.mpr ⟨.own (.lst (n.outs.map outD)), rfl, _, _, rfl, rfl, _, add_lists _ _ (by rw [List.length_map, List.length_map, sl16]; omega),
    w_frzo ⟨n.regs.map Reg.toD ++ n.outs.map outD, rfl, .emp, fun x => .tuple [(idxD x (.int 1)).getD .none, hdD x], rfl, rfl, by rw [List.length_append, List.length_map, List.length_map, sl16]; omega, fun x hx => ?_, ?_⟩⟩⟩⟩⟩
  · have : ∃ (a b : Str) (r : List D), x = .tuple (.str a :: .str b :: r) := by
      rcases List.mem_append.mp hx with h | h
      · obtain ⟨r, _, rfl⟩ := List.mem_map.mp h; exact ⟨_, _, _, rfl⟩
      · obtain ⟨r, _, rfl⟩ := List.mem_map.mp h; exact ⟨_, _, _, rfl⟩
    obtain ⟨a, b, r, rfl⟩ := this
    have i1 : idxD (.tuple (.str a :: .str b :: r)) (.int 1) = some (.str b) := L2.atI_nat (j := 1) rfl
    refine e_tup.mpr <| e_cons.mpr <| e_idx.mpr <| (e_val rfl).mpr <| e_con.mpr ⟨_, _, rfl, rfl, _, i1, e_cons.mpr <| e_idx.mpr <| (e_val rfl).mpr <| e_con.mpr ⟨_, _, rfl, rfl, _, idx0 _ _, e_nil.mpr <| w_frzL (ds := [.str b, .str a]) ⟨two_le, w_frzd ⟨?_, rfl⟩⟩⟩⟩
    show _ = PyData.tuple [(idxD (.tuple (.str a :: .str b :: r)) (.int 1)).getD .none, .str a]
    rw [i1]
    rfl
  have ee : (n.regs.map Reg.toD ++ n.outs.map outD).map (fun x => PyData.tuple [(idxD x (.int 1)).getD .none, hdD x]) = ((endPairs n).map fun q => [q.2, q.1]).map wD := by
    unfold endPairs
    rw [List.map_append, List.map_append, List.map_append, List.map_map, List.map_map, List.map_map, List.map_map, List.map_map]
    rfl
  rw [ee]
  refine w_stlo <| e_lst.mpr <| e_nil.mpr <| w_frzL (ds := []) ⟨Nat.zero_le _, w_stlo <| put_o (x := .emp) rfl rfl <| put_o (x := .emp) rfl rfl ?_⟩
  have tail0 : ∀ w ∈ (endPairs n).map (fun q => [q.2, q.1]), PTail n w ∧ w.length + f (hd w) ≤ 300000 := fun w hw => by
    obtain ⟨z, hz, rfl⟩ := List.mem_map.mp hw
    have := (cb z.2).2
    exact ⟨⟨z.2, [], z.1, rfl, hn.data _ (end_in hz).2, trivial, hz⟩, by show 2 + f z.2 ≤ _; omega⟩
  have w0 : weigh f ((endPairs n).map fun q => [q.2, q.1]) ≤ 8 * 262144 := by
    have le : (endPairs n).length ≤ 8 := by
      unfold endPairs
      rw [List.length_append, List.length_map]
      omega
    have all : ∀ l : List (Str × Str), weigh f (l.map fun q => [q.2, q.1]) ≤ l.length * 262144 := fun l => by
      induction l with
      | nil => exact Nat.zero_le _
      | cons z r ih =>
        show f z.2 + weigh f (r.map fun q => [q.2, q.1]) ≤ (r.length + 1) * 262144
        have := (cb z.2).2
        omega
    exact Nat.le_trans (all _) (Nat.mul_le_mul_right _ le)
  unfold q_law_ways_3 q_law_ways_2
  have lW : ∀ l : List (List Str), (l.map wD).length = l.length := fun l => List.length_map ..
  have plW : ∀ l : List (List Str), plainA (l.map wD) = true := fun l => plainA_of fun x hx => by
    obtain ⟨w, _, rfl⟩ := List.mem_map.mp hx
    exact plain_strs w
  refine b_cons.mpr <| s_whl (hΛ.trans A.loop) (fun j s => ∃ (ws fs : List (List Str)) (x4 : Sl), s = [.val n.toD, .own (.dic (enc (gatePairs n))), .own (.lst (ws.map wD)), .own (.lst (fs.map wD)), x4, .emp, .emp, .emp] ∧ isIo (some x4) = false ∧ j = weigh f ws ∧ (∀ w ∈ ws, PTail n w ∧ w.length + f (hd w) ≤ 300000) ∧ (∀ w ∈ fs, PathOf n w ∧ w.length ≤ 300000) ∧ fs.length + weigh f ws ≤ 8 * 262144) (weigh f ((endPairs n).map fun q => [q.2, q.1]))
    ⟨_, [], .emp, rfl, rfl, rfl, tail0, (fun _ z => nomatch z), by rw [List.length_nil]; omega⟩ ?_
  rintro j s ⟨ws, fs, x4, rfl, i4, rfl, hw, hfs, le⟩
  have lws := weigh_ge (fun x => (cb x).1) ws
  refine e_cmp.mpr <| (e_own rfl).mpr <| e_lst.mpr <| e_nil.mpr <| w_frzL (ds := []) ⟨Nat.zero_le _, _, _, rfl, rfl, _, ne_nil (plW ws), _, rfl, ?_⟩
  cases ws with
  | nil =>
    have so : sortB (fs.map wD) = true := ways_ok fun x hx => by
      obtain ⟨w, hw, rfl⟩ := List.mem_map.mp hx
      exact ⟨w, by have := (hfs w hw).1.len; omega, rfl⟩
    obtain ⟨fs', pf, ef⟩ := perm_map_inv (f := wD) (List.mergeSort_perm (fs.map wD) (PySem.W.dataLe false id)) fs rfl
    refine b_cons.mpr <| s_ret.mpr <| e_bi.mpr <| e_cons.mpr <| (e_own rfl).mpr <| e_nil.mpr ⟨_, b_sorted so, w_reto ?_⟩
    have e : sortD (fs.map wD) = fs'.map wD := ef
    rw [e]
    exact q fs' (fun w hw => hfs w (pf.mem_iff.mp hw)) (by rw [pf.length_eq]; omega)
  | cons w ws =>
    obtain ⟨⟨fst, ms, en, ew, hfst, hch, hen⟩, lw⟩ := hw w List.mem_cons_self
    have hdw : hd w = fst := by rw [ew]; rfl
    have wg : weigh f (w :: ws) = f fst + weigh f ws := by
      show f (hd w) + weigh f ws = _
      rw [hdw]
    have tl : slcD (.list ((w :: ws).map wD)) (some 1) none = some (.own (.lst (ws.map wD))) := by
      have := cut_from ((w :: ws).map wD) 1 (by rw [lW, List.length_cons]; omega)
      exact this
    refine b_cons.mpr <| s_par.mpr <| e_idx.mpr <| (e_own rfl).mpr <| e_con.mpr ⟨_, _, rfl, rfl, wD w, L2.atI_nat (j := 0) rfl, w_stld <| e_slc <| (e_own rfl).mpr <| e_cons.mpr <| e_con.mpr <| e_nil.mpr ⟨_, rfl, e_nil.mpr ⟨_, none, _, rfl, rfl, tl, w_stlo <| put_v (x := x4) rfl i4 <| put_o (x := .own _) rfl rfl ?_⟩⟩⟩
    refine b_cons.mpr <| s_ife.mpr <| e_cmp.mpr <| e_idx.mpr <| (e_val rfl).mpr <| e_con.mpr ⟨_, _, rfl, rfl, _, idx_head ew, (e_own rfl).mpr ⟨_, _, rfl, rfl, _, in_dict fst (gatePairs n), _, rfl, ?_⟩⟩
    by_cases isG : fst ∈ n.gates.map (·.name)
    · obtain ⟨g, hg, gn⟩ := List.mem_map.mp isG
      have lk : lookD (.str fst) (enc (gatePairs n)) = some (.tuple (strL g.pins)) := look_enc (nd_gate hn) (List.mem_map.mpr ⟨g, hg, by rw [gn]⟩)
      rw [lk]
      have ng := np g hg
      have fgw : f fst = 1 + (g.pins.map f).sum := gn ▸ fg g hg
      have lwl : w.length ≤ 300000 := by omega
      show WG (exB O _ _) _ _
      refine b_cons.mpr <| s_set.mpr <| e_bin.mpr <| e_map <| i_v <| e_idx.mpr <| (e_own rfl).mpr <| e_idx.mpr <| (e_val rfl).mpr <| e_con.mpr ⟨_, _, rfl, rfl, _, idx_head ew, _, _, rfl, rfl, _, idx_dic lk, w_frzd ⟨strL g.pins, rfl, .emp, fun y => .tuple ([y] ++ strL w), rfl, rfl, by rw [strL, List.length_map, sl16]; omega, fun y hy => ?_, ?_⟩⟩
      · exact e_bin.mpr <| e_tup.mpr <| e_cons.mpr <| (e_val rfl).mpr <| e_nil.mpr <| w_frzL (ds := [y]) ⟨one_size, (e_val rfl).mpr ⟨_, _, rfl, rfl, _, add_tups _ _ (by rw [strL, List.length_map, sl16]; show 1 + w.length ≤ 16777216; omega), w_frzd ⟨rfl, rfl⟩⟩⟩
      · have e2 : (strL g.pins).map (fun y => PyData.tuple ([y] ++ strL w)) = (g.pins.map fun y => y :: w).map wD := by
          unfold strL
          rw [List.map_map, List.map_map]
          rfl
        rw [e2]
        have w2 : weigh f (g.pins.map fun y => y :: w) = (g.pins.map f).sum := by
          unfold weigh
          rw [List.map_map]
          rfl
        have wn : weigh f ((g.pins.map fun y => y :: w) ++ ws) = (g.pins.map f).sum + weigh f ws := by rw [weigh_app, w2]
        have l2 : ws.length ≤ weigh f ws := weigh_ge (fun x => (cb x).1) ws
        refine (e_own rfl).mpr ⟨_, _, rfl, rfl, _, add_lists _ _ (by rw [lW, lW, List.length_map, sl16]; omega), put_o (x := .own _) rfl rfl <| b_nil.mpr <| b_nil.mpr ⟨weigh f ((g.pins.map fun y => y :: w) ++ ws), by omega, (g.pins.map fun y => y :: w) ++ ws, fs, _, by rw [List.map_append]; rfl, rfl, rfl, fun v hv => ?_, hfs, by omega⟩⟩
        rcases List.mem_append.mp hv with hv | hv
        · obtain ⟨y, hy, rfl⟩ := List.mem_map.mp hv
          refine ⟨⟨y, fst :: ms, en, by rw [ew]; rfl, pins g hg y hy, ⟨⟨g, hg, gn, hy⟩, hch⟩, hen⟩, ?_⟩
          have : f y ≤ (g.pins.map f).sum := le_sum f hy
          show (w.length + 1) + f y ≤ 300000
          rw [hdw] at lw
          omega
        · exact hw v (List.mem_cons_of_mem _ hv)
    · have lk : lookD (.str fst) (enc (gatePairs n)) = none := look_none (by rw [keysG]; exact isG)
      rw [lk]
      have st : fst ∈ n.starts := (List.mem_append.mp hfst).resolve_right isG
      have f1 := (cb fst).1
      show WG (exB O _ _) _ _
      refine b_cons.mpr <| s_ex.mpr <| e_mut ⟨rfl, e_cons.mpr <| (e_val rfl).mpr <| e_nil.mpr <| w_frzL (ds := [wD w]) ⟨fs.map wD, .none, .lst ((fs ++ [w]).map wD), rfl, ?_, b_nil.mpr <| b_nil.mpr ⟨weigh f ws, by omega, ws, fs ++ [w], _, rfl, rfl, rfl, fun v hv => hw v (List.mem_cons_of_mem _ hv), fun v hv => ?_, by rw [List.length_append, List.length_singleton]; omega⟩⟩⟩
      · show (if (fs.map wD).length < sizeLine then some (PyData.none, Ob.lst (fs.map wD ++ [wD w])) else none) = _
        rw [if_pos (by rw [lW, sl16]; omega), List.map_append]
        rfl
      · rcases List.mem_append.mp hv with hv | hv
        · exact hfs v hv
        · rw [List.mem_singleton.mp hv]
          exact ⟨⟨fst, ms, en, ew, st, hch, hen⟩, by omega⟩
end
end KA

/-! KA11: what is shown. -/
namespace KA
open PySem GS ND
mutual
/-- short numbers, small letters, tuples of these -/
def niceD : D → Bool
  | .int i => decide (i.natAbs < 10 ^ 10)
  | .str x => x.cps.toList.all fun c => decide (97 ≤ c) && decide (c < 123)
  | .tuple xs => niceA xs
  | _ => false
def niceA : List D → Bool
  | [] => true
  | x :: r => niceD x && niceA r
end
theorem niceA_of {xs : List D} (h : ∀ x ∈ xs, niceD x = true) : niceA xs = true := by
  induction xs with
  | nil => rfl
  | cons x r ih => rw [niceA, h x List.mem_cons_self, ih fun y hy => h y (List.mem_cons_of_mem _ hy)]; rfl
theorem log_ok {i : Int} (h : i.natAbs < 10 ^ 10) : i.natAbs.log2 < 40 := by
  by_cases z : i.natAbs = 0
  · rw [z]; decide
  · rw [Nat.log2_lt z]
    exact Nat.lt_of_lt_of_le h (by decide)
theorem repr_letter : ∀ c, 97 ≤ c → c < 123 → Builtin.Str.reprChar 39 c = [c] := by
  intro c h1 h2
  have all : ∀ j, j < 26 → Builtin.Str.reprChar 39 (97 + j) = [97 + j] := by decide +kernel
  have := all (c - 97) (by omega)
  rwa [show 97 + (c - 97) = c by omega] at this
theorem repr_nm {x : Str} (h : ∀ c ∈ x.cps.toList, 97 ≤ c ∧ c < 123) : PyData.strOk (reprText x) = true := by
  have hq : reprQuote x = 39 := by
    unfold reprQuote
    have : x.cps.contains 39 = false := by
      cases q : x.cps.contains 39 with
      | false => rfl
      | true =>
        have := h 39 (by simpa using q)
        omega
    rw [this]
    rfl
  refine strOk_iff.mpr fun c hc => ?_
  unfold reprText at hc
  rw [hq] at hc
  have inv : ∀ (l acc : List Nat), (∀ c ∈ l, 97 ≤ c ∧ c < 123) → (∀ c ∈ acc, c < 0x110000) → ∀ c ∈ (l.foldl (fun out c => out ++ (Builtin.Str.reprChar 39 c).toArray) acc.toArray).toList, c < 0x110000 := by
    intro l
    induction l with
    | nil => intro acc _ ha c hc; exact ha c (by simpa using hc)
    | cons a r ih =>
      intro acc hl ha c hc
      obtain ⟨a1, a2⟩ := hl a List.mem_cons_self
      rw [List.foldl_cons, repr_letter a a1 a2] at hc
      have e : acc.toArray ++ [a].toArray = (acc ++ [a]).toArray := by simp
      rw [e] at hc
      refine ih (acc ++ [a]) (fun y hy => hl y (List.mem_cons_of_mem _ hy)) (fun y hy => ?_) c hc
      rcases List.mem_append.mp hy with hy | hy
      · exact ha y hy
      · rw [List.mem_singleton.mp hy]; omega
  have hc' : c ∈ (x.cps.toList.foldl (fun out c => out ++ (Builtin.Str.reprChar 39 c).toArray) ([39] : List Nat).toArray).toList ++ [39] := by
    have e : ((x.cps.foldl (fun out c => out ++ (Builtin.Str.reprChar 39 c).toArray) #[39]).push 39).toList = (x.cps.toList.foldl (fun out c => out ++ (Builtin.Str.reprChar 39 c).toArray) ([39] : List Nat).toArray).toList ++ [39] := by
      rw [Array.toList_push, ← Array.foldl_toList]
    rw [← e]
    exact hc
  rcases List.mem_append.mp hc' with z | z
  · exact inv _ [39] h (fun y hy => by rw [List.mem_singleton.mp hy]; decide) c z
  · rw [List.mem_singleton.mp z]; decide
theorem join_ok' : ∀ ts : List Str, (∀ t ∈ ts, PyData.strOk t = true) → PyData.strOk (Str.join ", " ts) = true
  | [], _ => by decide +kernel
  | [x], h => h x List.mem_cons_self
  | x :: y :: r, h => by
    have ih := join_ok' (y :: r) fun t ht => h t (List.mem_cons_of_mem _ ht)
    have sp : PyData.strOk (", " : Str) = true := by decide +kernel
    exact strOk_app (strOk_app (h x List.mem_cons_self) sp) ih
mutual
theorem nice_str : ∀ d : D, niceD d = true → PyData.strOk d.shown = true
  | .int i, h => by
    show (Str.ofString (toString i)).cps.all (· < 0x110000) = true
    rw [← Array.all_toList]
    exact List.all_eq_true.mpr fun c hc => by
      have := PySem.W.KSb.asc_num i c hc
      simp
      omega
  | .str x, h => by
    refine repr_nm fun c hc => ?_
    have := List.all_eq_true.mp (show (x.cps.toList.all fun c => decide (97 ≤ c) && decide (c < 123)) = true from h) c hc
    rw [Bool.and_eq_true, decide_eq_true_eq, decide_eq_true_eq] at this
    exact this
  | .tuple xs, h => by
    have ih := nice_strs xs h
    show PyData.strOk (tupleText (PyData.shownAll xs)) = true
    unfold tupleText
    refine strOk_app (strOk_app (by decide +kernel) (join_ok' _ ih)) ?_
    split <;> decide +kernel
  | .none, h => by cases h
  | .bool _, h => by cases h
  | .list _, h => by cases h
  | .dict _, h => by cases h
theorem nice_strs : ∀ xs : List D, niceA xs = true → ∀ t ∈ PyData.shownAll xs, PyData.strOk t = true
  | [], _, _, ht => by cases ht
  | x :: r, h, t, ht => by
    rw [niceA, Bool.and_eq_true] at h
    rcases List.mem_cons.mp ht with rfl | ht
    · exact nice_str x h.1
    · exact nice_strs r h.2 t ht
end
mutual
theorem nice_all : ∀ d : D, niceD d = true → d.showable = true ∧ plainD d = true ∧ d.canLay0 = true ∧ d.intsShort 13 = true
  | .int i, h => by
    have h : i.natAbs < 10 ^ 10 := of_decide_eq_true h
    refine ⟨?_, rfl, rfl, ?_⟩
    · show decide (i.natAbs.log2 < 1920) = true
      exact decide_eq_true (Nat.lt_trans (log_ok h) (by decide))
    · show decide ((PyData.shown (.int i)).length ≤ 13) = true
      exact decide_eq_true (PyData.shown_int_le (Nat.lt_trans h (by decide)))
  | .str x, h => by
    refine ⟨rfl, rfl, ?_, rfl⟩
    show PyData.strOk x = true
    refine strOk_iff.mpr fun c hc => ?_
    have := List.all_eq_true.mp (show (x.cps.toList.all fun c => decide (97 ≤ c) && decide (c < 123)) = true from h) c hc
    rw [Bool.and_eq_true, decide_eq_true_eq, decide_eq_true_eq] at this
    omega
  | .tuple xs, h => nice_alls xs h
  | .none, h => by cases h
  | .bool _, h => by cases h
  | .list _, h => by cases h
  | .dict _, h => by cases h
theorem nice_alls : ∀ xs : List D, niceA xs = true → PyData.showableAll xs = true ∧ plainA xs = true ∧ PyData.canLayAll0 xs = true ∧ PyData.intsShortAll 13 xs = true
  | [], _ => ⟨rfl, rfl, rfl, rfl⟩
  | x :: r, h => by
    rw [niceA, Bool.and_eq_true] at h
    obtain ⟨a1, a2, a3, a4⟩ := nice_all x h.1
    obtain ⟨b1, b2, b3, b4⟩ := nice_alls r h.2
    refine ⟨?_, ?_, ?_, ?_⟩
    · rw [PyData.showableAll, a1, b1]; rfl
    · rw [plainA, a2, b2]; rfl
    · rw [PyData.canLayAll0, a3, b3]; rfl
    · rw [PyData.intsShortAll, a4, b4]; rfl
end
theorem b_repr {d : D} (h : niceD d = true) (dp : d.depth ≤ 60) (w : d.weight ≤ 1000000) : biD "repr" [d] = some (.d (.str d.shown)) := by
  obtain ⟨a1, a2, a3, a4⟩ := nice_all d h
  have l : d.shown.length ≤ sizeLine := PyData.shown_fits (B := 13) (by decide) (Nat.le_refl _) (PyData.leavesShort_of_canLay0 13 d a3 a4) (Nat.le_trans w (by decide))
  show (if d.showable && plainD d && decide (d.depth ≤ 60) && decide (d.shown.length ≤ sizeLine) && PyData.strOk d.shown then some (RV.d (.str d.shown)) else none) = _
  rw [a1, a2, nice_str d h, decide_eq_true dp, decide_eq_true l]
  rfl
theorem int_weight {i : Int} (h : i.natAbs < 10 ^ 10) : (PyData.int i).weight ≤ 40 := by
  show (if i == 0 then 0 else i.natAbs.log2 + 1) ≤ 40
  have := log_ok h
  split <;> omega
theorem repr_int {i : Int} (h : i.natAbs < 10 ^ 10) : biD "repr" [.int i] = some (.d (.str (PyData.int i).shown)) :=
  b_repr (decide_eq_true h) (by show 0 ≤ 60; decide) (Nat.le_trans (int_weight h) (by decide))
theorem repr_pair {a b : Int} (h1 : a.natAbs < 10 ^ 10) (h2 : b.natAbs < 10 ^ 10) : biD "repr" [pairD (a, b)] = some (.d (.str (pairD (a, b)).shown)) := by
  refine b_repr (d := pairD (a, b)) ?_ ?_ ?_
  · show (decide (a.natAbs < 10 ^ 10) && (decide (b.natAbs < 10 ^ 10) && true)) = true
    rw [decide_eq_true h1, decide_eq_true h2]
    rfl
  · simp [pairD, PyData.depth, PyData.depthAll]
  · have := int_weight h1
    have := int_weight h2
    show (PyData.int a).weight + 1 + ((PyData.int b).weight + 1 + 0) ≤ 1000000
    omega
theorem weightA_le {xs : List D} {B : Nat} (h : ∀ x ∈ xs, x.weight ≤ B) : PyData.weightAll xs ≤ xs.length * (B + 1) := by
  induction xs with
  | nil => exact Nat.zero_le _
  | cons x r ih =>
    have := h x List.mem_cons_self
    have := ih fun y hy => h y (List.mem_cons_of_mem _ hy)
    rw [PyData.weightAll, List.length_cons, Nat.add_mul, Nat.one_mul]
    omega
end KA

/-! KA12: one path is told right. -/
namespace KA
open PySem GS ND
theorem sum_bound : ∀ l : List Int, (∀ x ∈ l, 0 ≤ x ∧ x ≤ 999) → 0 ≤ l.sum ∧ l.sum ≤ 999 * l.length
  | [], _ => ⟨Int.le_refl _, Int.le_refl _⟩
  | x :: r, h => by
    have h1 := h x List.mem_cons_self
    have h2 := sum_bound r fun y hy => h y (List.mem_cons_of_mem _ hy)
    rw [List.sum_cons, List.length_cons]
    omega
theorem sums_bound {n : Net} {m : Nat} (hn : n.Ok m) (sm : Small n) (w : List Str) (c : Nat) : (0 ≤ (sumsOn n w c).1 ∧ (sumsOn n w c).1 ≤ 30000) ∧ 0 ≤ (sumsOn n w c).2 ∧ (sumsOn n w c).2 ≤ 30000 := by
  have hp : ∀ q ∈ pairsOn n w c, Pair q := fun q hq => by
    obtain ⟨g, hg, rfl⟩ := List.mem_map.mp hq
    have hg := (List.mem_filter.mp hg).1
    have := (net_dl hn g hg).2
    rw [List.getD_eq_getElem?_getD]
    cases e : g.dl[c]? with
    | none => exact ⟨by decide, by decide, by decide⟩
    | some q => exact this q (List.mem_of_getElem? e)
  have lp : (pairsOn n w c).length ≤ 30 := by
    unfold pairsOn
    rw [List.length_map]
    exact Nat.le_trans (List.length_filter_le ..) sm.g
  have a := sum_bound ((pairsOn n w c).map (·.1)) fun x hx => by
    obtain ⟨q, hq, rfl⟩ := List.mem_map.mp hx
    have := hp q hq
    unfold Pair at this
    omega
  have b := sum_bound ((pairsOn n w c).map (·.2)) fun x hx => by
    obtain ⟨q, hq, rfl⟩ := List.mem_map.mp hx
    have := hp q hq
    unfold Pair at this
    omega
  rw [List.length_map] at a b
  show (0 ≤ ((pairsOn n w c).map (·.1)).sum ∧ ((pairsOn n w c).map (·.1)).sum ≤ 30000) ∧ 0 ≤ ((pairsOn n w c).map (·.2)).sum ∧ ((pairsOn n w c).map (·.2)).sum ≤ 30000
  omega
theorem shift_bound {n : Net} {c : Clk} (h : c.Ok n) (x : Str) : -999 ≤ shiftAt n c x ∧ shiftAt n c x ≤ 999 := by
  unfold shiftAt
  cases e : lookD (.str x) (enc (shiftPairs n c)) with
  | none => exact ⟨by decide, by decide⟩
  | some v =>
    obtain ⟨q, hq, rfl⟩ := look_val e
    obtain ⟨z, hz, rfl⟩ := List.mem_map.mp hq
    exact h.sk z.2 (List.of_mem_zip hz).2
theorem need_bound {n : Net} {m : Nat} (h : n.Ok m) (x : Str) : (0 ≤ (needAt n x).1 ∧ (needAt n x).1 ≤ 999) ∧ 0 ≤ (needAt n x).2 ∧ (needAt n x).2 ≤ 999 := by
  unfold needAt
  cases e : lookD (.str x) (enc (needPairs n)) with
  | none => exact ⟨⟨by decide, by decide⟩, by decide, by decide⟩
  | some v =>
    obtain ⟨q, hq, rfl⟩ := look_val e
    obtain ⟨r, hr, rfl⟩ := List.mem_map.mp hq
    obtain ⟨h1, h2, _⟩ := h.regs r hr
    show (0 ≤ r.su ∧ r.su ≤ 999) ∧ 0 ≤ r.ho ∧ r.ho ≤ 999
    omega
theorem slack_bound {n : Net} {m : Nat} (hn : n.Ok m) (sm : Small n) {c : Clk} (hc : c.Ok n) (w : List Str) (side : Str) (spot : Nat) : (slackOn n c w side spot).natAbs < 10 ^ 10 := by
  have a := sums_bound hn sm w spot
  have b := shift_bound hc (firstOf w)
  have d := shift_bound hc (endOf w)
  have e := need_bound hn (endOf w)
  have f := hc.b1
  have g := hc.b2
  unfold slackOn
  split <;> omega
theorem ne_same (a : Str) : cmpD .NotEq (.str a) (.str a) = some false := by
  show (cmpD .Eq (.str a) (.str a)).map not = _
  rw [eq_str, decide_eq_true rfl]
  rfl
theorem ne_two (a : Str) : cmpD .NotEq (.list [.str a, .str a]) (.list [.str a, .str a]) = some false := by
  have dp : (PyData.list [.str a, .str a]).depth ≤ 64 := by simp [PyData.depth, PyData.depthAll]
  have e : eqD (.list [.str a, .str a]) (.list [.str a, .str a]) = some true := by
    unfold eqD
    rw [if_pos (by rw [Bool.and_eq_true, decide_eq_true_eq]; exact ⟨rfl, Nat.le_trans (Nat.min_le_left _ _) dp⟩)]
    have : PyData.eqv (.list [.str a, .str a]) (.list [.str a, .str a]) = (decide (a = a) && (decide (a = a) && true)) := rfl
    rw [this, decide_eq_true rfl]
    rfl
  show (eqD (.list [.str a, .str a]) (.list [.str a, .str a])).map not = _
  rw [e]
  rfl
theorem bind_three {s : Ev} {i j l : Nat} {x y z : D} {u v t : Sl} {QU : Unit → Ev → Prop} {E : Xn → Ev → Prop} (hi : s[i]? = some u) (iu : isIo (some u) = false) (hj : (s.set i (.val x))[j]? = some v) (iv : isIo (some v) = false) (hl : ((s.set i (.val x)).set j (.val y))[l]? = some t) (it : isIo (some t) = false) (q : QU () (((s.set i (.val x)).set j (.val y)).set l (.val z))) : WG (bindT (.tup [i, j, l]) (.tuple [x, y, z]) s) QU E := by
  show WG ((putS i (.val x) s).bind fun _ s => (putS j (.val y) s).bind fun _ s => (putS l (.val z) s).bind fun _ s => .ok () s) QU E
  exact WG_bind.mpr <| w_putS hi iu <| WG_bind.mpr <| w_putS hj iv <| WG_bind.mpr <| w_putS hl it <| w_ok.mpr q
theorem w_wipe3 {s : Ev} {i j l : Nat} {x y z : Sl} {QU : Unit → Ev → Prop} {E : Xn → Ev → Prop} (h1 : s[i]? = some x) (h2 : s[j]? = some y) (h3 : s[l]? = some z) (o1 : isOwn (some x) = false) (o2 : isOwn (some y) = false) (o3 : isOwn (some z) = false) (q : QU () (((s.set l .emp).set j .emp).set i .emp)) : WG (wipeC [i, j, l] s) QU E := by
  unfold wipeC
  rw [List.any_cons, List.any_cons, List.any_cons, List.any_nil, h1, h2, h3, o1, o2, o3]
  exact w_ok.mpr q
section
variable {p : Prog}
theorem r_way_right (A : Has p) (C : Con p) (k : Nat) (n : Net) {m : Nat} (hn : n.Ok m) (sm : Small n) (c : Clk) (hc : c.Ok n) (w : List Str) (hw : PathOf n w) (lw : w.length ≤ 1000000) {P : RV → Option Ob → Prop} {E : Xn → Option Ob → Prop} (q : P (.d (.bool true)) none) :
    wpR (run p (k + 6) "_law_way_right" [.d n.toD, .d c.toD, .d (.tuple (strL w))]) P E := by
  have l2 := hw.len
  obtain ⟨co1, co3⟩ := corners_le hn
  have hs' : ∀ spot, spot < corners n → ∀ g ∈ n.gates, spot < g.dl.length := fun spot h g hg => by rw [(net_dl hn g hg).1]; exact h
  have late : Fits n "late" (endOf w) := by
    refine .inl ⟨rfl, ?_⟩
    obtain ⟨f, ms, e, ew, _, _, he⟩ := hw.ex
    have : endOf w = e := by
      rw [ew]
      unfold endOf
      rw [List.getLastD_cons, List.getLastD_eq_getLast?, List.getLast?_append]
      rfl
    rw [this]
    exact (end_in he).1
  have rp : ∀ spot, biD "repr" [pairD (sumsOn n w spot)] = some (.d (.str (pairD (sumsOn n w spot)).shown)) := fun spot => by
    have := sums_bound hn sm w spot
    exact repr_pair (a := (sumsOn n w spot).1) (b := (sumsOn n w spot).2) (by omega) (by omega)
  have rs : ∀ side spot, biD "repr" [.int (slackOn n c w side spot)] = some (.d (.str (PyData.int (slackOn n c w side spot)).shown)) := fun side spot => repr_int (slack_bound hn sm hc w side spot)
  refine wp_run A.f_law_way_right rfl fun O hΦ hG hΛ => ?_
  show WG (exB O k_law_way_right [.val n.toD, .val c.toD, .val (.tuple (strL w)), .emp, .emp, .emp, .emp, .emp, .emp, .emp]) _ _
  unfold k_law_way_right q_law_way_right_0
  -- the sides
  refine b_cons.mpr <| s_set.mpr <| e_comp <| i_v <| e_call <| e_cons.mpr <| (e_val rfl).mpr <| e_nil.mpr ⟨[.d n.toD], rfl, ?_⟩
  rw [hΦ]
  refine r_law_checks A (k + 3) n hn sm fun cs hcs lcs => ⟨_, rfl, w_frzo ⟨cs, rfl, rfl, w_wipe3 (x := .emp) (y := .emp) (z := .emp) rfl rfl rfl rfl rfl rfl ?_⟩⟩
  refine wp_comp (fun j acc s => acc.length ≤ j ∧ (∀ y ∈ acc, ∃ sd, y = PyData.str sd ∧ Fits n sd (endOf w)) ∧ s = [.val n.toD, .val c.toD, .val (.tuple (strL w)), .emp, .emp, .emp, .emp, .emp, .emp, .emp]) (fun j x acc s hj ⟨la, ha, es⟩ => ?_) (fun acc s ⟨la, ha, es⟩ => ?_) ⟨Nat.zero_le _, (fun _ z => nomatch z), rfl⟩
  · subst es
    have lt := (List.getElem?_eq_some_iff.mp hj).1
    obtain ⟨sd, e, sp, rfl, fit⟩ := hcs x (List.mem_of_getElem? hj)
    refine bind_three (x := .str sd) (y := .str e) (z := .int sp) (u := .emp) (v := .emp) (t := .emp) rfl rfl rfl rfl rfl rfl <| t_one <| e_and.mpr <| e_cmp.mpr <| (e_val rfl).mpr <| e_idx.mpr <| (e_val rfl).mpr <| e_neg <| e_con.mpr ⟨1, rfl, _, _, rfl, rfl, _, idx_last (by omega), _, _, rfl, rfl, _, eq_str _ _, _, rfl, ?_⟩
    by_cases ee : e = endOf w
    · rw [decide_eq_true ee]
      refine e_cmp.mpr <| (e_val rfl).mpr <| e_con.mpr ⟨_, _, rfl, rfl, _, eq_int _ _, _, rfl, ?_⟩
      by_cases sz : (sp : Int) = 0
      · rw [decide_eq_true sz]
        refine WG_bind.mpr <| (e_val rfl).mpr <| w_frzd ⟨by rw [sl16]; omega, w_wipe3 (x := .val _) (y := .val _) (z := .val _) rfl rfl rfl rfl rfl rfl ⟨by rw [List.length_append, List.length_singleton]; omega, fun y hy => ?_, rfl⟩⟩
        rcases List.mem_append.mp hy with hy | hy
        · exact ha y hy
        · rw [List.mem_singleton.mp hy]
          exact ⟨sd, rfl, ee ▸ fit⟩
      · rw [decide_eq_false sz]
        exact w_wipe3 (x := .val _) (y := .val _) (z := .val _) rfl rfl rfl rfl rfl rfl ⟨by omega, ha, rfl⟩
    · rw [decide_eq_false ee]
      exact ⟨false, rfl, w_wipe3 (x := .val _) (y := .val _) (z := .val _) rfl rfl rfl rfl rfl rfl ⟨by omega, ha, rfl⟩⟩
  subst es
  refine put_o (x := .emp) rfl rfl ?_
  -- at the first corner
  refine b_cons.mpr <| s_ife.mpr <| e_cmp.mpr <| e_bi.mpr <| e_cons.mpr <| e_call <| e_cons.mpr <| (e_val rfl).mpr <| e_cons.mpr <| (e_val rfl).mpr <| e_nil.mpr ⟨[.d n.toD, .d (.tuple (strL w)), .d (.int 0)], rfl, ?_⟩
  rw [hΦ]
  refine r_delays_of A C (k + 1) n hn sm w hw lw 0 (by omega) ⟨_, rfl, e_nil.mpr ⟨_, rp 0, e_bi.mpr <| e_cons.mpr <| e_call <| e_cons.mpr <| (e_val rfl).mpr <| e_cons.mpr <| (e_val rfl).mpr <| e_cons.mpr <| e_con.mpr <| e_nil.mpr ⟨[.d n.toD, .d (.tuple (strL w)), .d (.int 0)], rfl, ?_⟩⟩⟩
  rw [hΦ]
  refine r_law_sums A (k + 4) n w 0 (by omega) sm (hs' 0 (by omega)) ⟨_, rfl, e_nil.mpr ⟨_, rp 0, _, _, rfl, rfl, _, ne_same _, _, rfl, b_nil.mpr ?_⟩⟩
  refine b_cons.mpr <| s_ife.mpr <| e_cmp.mpr <| e_bi.mpr <| e_cons.mpr <| e_call <| e_cons.mpr <| (e_val rfl).mpr <| e_cons.mpr <| (e_val rfl).mpr <| e_cons.mpr <| (e_val rfl).mpr <| e_nil.mpr ⟨[.d n.toD, .d c.toD, .d (.tuple (strL w)), .d (.str "late"), .d (.int 0)], rfl, ?_⟩
  rw [hΦ]
  refine r_slack_along A C k n hn sm c hc w hw lw "late" late 0 (by omega) ⟨_, rfl, e_nil.mpr ⟨_, rs "late" 0, e_bi.mpr <| e_cons.mpr <| e_call <| e_cons.mpr <| (e_val rfl).mpr <| e_cons.mpr <| (e_val rfl).mpr <| e_cons.mpr <| (e_val rfl).mpr <| e_cons.mpr <| e_con.mpr <| e_cons.mpr <| e_con.mpr <| e_nil.mpr ⟨[.d n.toD, .d c.toD, .d (.tuple (strL w)), .d (.str "late"), .d (.int 0)], rfl, ?_⟩⟩⟩
  rw [hΦ]
  refine r_law_slack A (k + 3) n hn sm c hc w (by omega) "late" 0 (hs' 0 (by omega)) ⟨_, rfl, e_nil.mpr ⟨_, rs "late" 0, _, _, rfl, rfl, _, ne_same _, _, rfl, b_nil.mpr ?_⟩⟩
  -- at each corner
  unfold q_law_way_right_3
  refine b_cons.mpr <| s_for <| i_rng1 (n := corners n) (by omega) <| e_call <| e_cons.mpr <| (e_val rfl).mpr <| e_nil.mpr ⟨[.d n.toD], rfl, ?_⟩
  rw [hΦ]
  refine r_law_corners A (k + 4) n ⟨_, rfl, rfl, ?_⟩
  refine ⟨fun j s => ∃ (x3 x4 x5 x6 x7 : Sl), s = [.val n.toD, .val c.toD, .val (.tuple (strL w)), x3, x4, x5, x6, x7, .emp, .emp] ∧ LSl x3 acc ∧ isIo (some x4) = false ∧ isIo (some x5) = false ∧ isIo (some x6) = false ∧ isIo (some x7) = false,
    ⟨_, _, _, _, _, rfl, .inl rfl, rfl, rfl, rfl, rfl⟩, fun j x s hx ⟨x3, x4, x5, x6, x7, es, l3, i4, i5, i6, i7⟩ => ?_, fun s ⟨x3, x4, x5, x6, x7, es, _⟩ => ?_⟩
  · subst es
    have hj : j < corners n := by simpa using (List.getElem?_eq_some_iff.mp hx).1
    have ex : x = .int (j : Int) := by
      rw [List.getElem?_map, List.getElem?_range hj] at hx
      cases hx
      rfl
    subst ex
    refine bind_nm (x := x4) rfl i4 ?_
    refine b_cons.mpr <| s_ife.mpr <| e_cmp.mpr <| e_bi.mpr <| e_cons.mpr <| e_call <| e_cons.mpr <| (e_val rfl).mpr <| e_cons.mpr <| (e_val rfl).mpr <| e_cons.mpr <| (e_val rfl).mpr <| e_nil.mpr ⟨[.d n.toD, .d (.tuple (strL w)), .d (.int j)], rfl, ?_⟩
    rw [hΦ]
    refine r_delays_of A C (k + 1) n hn sm w hw lw j hj ⟨_, rfl, e_nil.mpr ⟨_, rp j, e_bi.mpr <| e_cons.mpr <| e_call <| e_cons.mpr <| (e_val rfl).mpr <| e_cons.mpr <| (e_val rfl).mpr <| e_cons.mpr <| (e_val rfl).mpr <| e_nil.mpr ⟨[.d n.toD, .d (.tuple (strL w)), .d (.int j)], rfl, ?_⟩⟩⟩
    rw [hΦ]
    refine r_law_sums A (k + 4) n w j (by omega) sm (hs' j hj) ⟨_, rfl, e_nil.mpr ⟨_, rp j, _, _, rfl, rfl, _, ne_same _, _, rfl, b_nil.mpr ?_⟩⟩
    refine b_cons.mpr <| s_ife.mpr <| e_cmp.mpr <| e_bi.mpr <| e_cons.mpr <| e_call <| e_cons.mpr <| (e_val rfl).mpr <| e_cons.mpr <| (e_val rfl).mpr <| e_cons.mpr <| (e_val rfl).mpr <| e_cons.mpr <| (e_val rfl).mpr <| e_nil.mpr ⟨[.d n.toD, .d c.toD, .d (.tuple (strL w)), .d (.str "late"), .d (.int j)], rfl, ?_⟩
    rw [hΦ]
    refine r_slack_along A C k n hn sm c hc w hw lw "late" late j hj ⟨_, rfl, e_nil.mpr ⟨_, rs "late" j, e_bi.mpr <| e_cons.mpr <| e_call <| e_cons.mpr <| (e_val rfl).mpr <| e_cons.mpr <| (e_val rfl).mpr <| e_cons.mpr <| (e_val rfl).mpr <| e_cons.mpr <| e_con.mpr <| e_cons.mpr <| (e_val rfl).mpr <| e_nil.mpr ⟨[.d n.toD, .d c.toD, .d (.tuple (strL w)), .d (.str "late"), .d (.int j)], rfl, ?_⟩⟩⟩
    rw [hΦ]
    refine r_law_slack A (k + 3) n hn sm c hc w (by omega) "late" j (hs' j hj) ⟨_, rfl, e_nil.mpr ⟨_, rs "late" j, _, _, rfl, rfl, _, ne_same _, _, rfl, b_nil.mpr ?_⟩⟩
    -- on each side
    unfold q_law_way_right_2
    refine b_cons.mpr <| s_for <| i_lv rfl l3 ?_
    refine ⟨fun i s => ∃ (x5 x6 x7 : Sl), s = [.val n.toD, .val c.toD, .val (.tuple (strL w)), .val (.list acc), .val (.int j), x5, x6, x7, .emp, .emp] ∧ isIo (some x5) = false ∧ isIo (some x6) = false ∧ isIo (some x7) = false,
      ⟨_, _, _, rfl, i5, i6, i7⟩, fun i x s hx ⟨x5, x6, x7, es, i5, i6, i7⟩ => ?_, fun s ⟨x5, x6, x7, es, i5, i6, i7⟩ => ?_⟩
    · subst es
      obtain ⟨sd, rfl, fit⟩ := ha x (List.mem_of_getElem? hx)
      refine bind_nm (x := x5) rfl i5 ?_
      refine b_cons.mpr <| s_set.mpr <| e_bi.mpr <| e_cons.mpr <| e_call <| e_cons.mpr <| (e_val rfl).mpr <| e_cons.mpr <| (e_val rfl).mpr <| e_cons.mpr <| (e_val rfl).mpr <| e_cons.mpr <| (e_val rfl).mpr <| e_cons.mpr <| (e_val rfl).mpr <| e_nil.mpr ⟨[.d n.toD, .d c.toD, .d (.tuple (strL w)), .d (.str sd), .d (.int j)], rfl, ?_⟩
      rw [hΦ]
      refine r_law_slack A (k + 3) n hn sm c hc w (by omega) sd j (hs' j hj) ⟨_, rfl, e_nil.mpr ⟨_, rs sd j, put_v (x := x6) rfl i6 ?_⟩⟩
      refine b_cons.mpr <| s_set.mpr <| e_lst.mpr <| e_cons.mpr <| e_call <| e_cons.mpr <| (e_val rfl).mpr <| e_cons.mpr <| (e_val rfl).mpr <| e_cons.mpr <| (e_val rfl).mpr <| e_cons.mpr <| (e_val rfl).mpr <| e_cons.mpr <| (e_val rfl).mpr <| e_nil.mpr ⟨[.d n.toD, .d c.toD, .d (.tuple (strL w)), .d (.str sd), .d (.int j)], rfl, ?_⟩
      rw [hΦ]
      refine r_slack_along A C k n hn sm c hc w hw lw sd fit j hj ⟨_, rfl, e_nil.mpr <| w_frzL (ds := [.int (slackOn n c w sd j)]) ⟨one_size, put_o (x := x7) rfl i7 ?_⟩⟩
      refine b_cons.mpr <| s_ex.mpr <| e_mut ⟨rfl, e_cons.mpr <| e_call <| e_cons.mpr <| (e_val rfl).mpr <| e_cons.mpr <| (e_val rfl).mpr <| e_cons.mpr <| (e_val rfl).mpr <| e_cons.mpr <| (e_val rfl).mpr <| e_cons.mpr <| (e_val rfl).mpr <| e_nil.mpr ⟨[.d n.toD, .d c.toD, .d (.tuple (strL w)), .d (.str sd), .d (.int j)], rfl, ?_⟩⟩
      rw [hΦ]
      refine r_slack_along A C k n hn sm c hc w hw lw sd fit j hj ⟨_, rfl, e_nil.mpr <| w_frzL (ds := [.int (slackOn n c w sd j)]) ⟨[.int (slackOn n c w sd j)], .none, .lst [.int (slackOn n c w sd j), .int (slackOn n c w sd j)], rfl, ?_, ?_⟩⟩
      · show (if ([PyData.int (slackOn n c w sd j)] : List D).length < sizeLine then some (PyData.none, Ob.lst ([.int (slackOn n c w sd j)] ++ [.int (slackOn n c w sd j)])) else none) = _
        rw [if_pos (by rw [sl16]; show 1 < 16777216; decide)]
        rfl
      unfold q_law_way_right_1
      refine b_cons.mpr <| s_ife.mpr <| e_cmp.mpr <| e_map <| i_v <| (e_own rfl).mpr <| w_frzs rfl ⟨[.int (slackOn n c w sd j), .int (slackOn n c w sd j)], rfl, .emp, fun _ => .str (PyData.int (slackOn n c w sd j)).shown, rfl, rfl, two_le, fun x hx => ?_, ?_⟩
      · have : x = .int (slackOn n c w sd j) := by
          simp only [List.mem_cons, List.not_mem_nil, or_false, or_self] at hx
          exact hx
        subst this
        exact e_bi.mpr <| e_cons.mpr <| (e_val rfl).mpr <| e_nil.mpr ⟨_, rs sd j, w_frzd ⟨rfl, rfl⟩⟩
      · refine e_lst.mpr <| e_cons.mpr <| (e_val rfl).mpr <| e_cons.mpr <| (e_val rfl).mpr <| e_nil.mpr <| w_frzL (ds := [.str (PyData.int (slackOn n c w sd j)).shown, .str (PyData.int (slackOn n c w sd j)).shown]) ⟨two_le, _, _, rfl, rfl, _, ne_two _, _, rfl, b_nil.mpr <| b_nil.mpr ⟨_, _, _, rfl, rfl, rfl, rfl⟩⟩
    · subst es
      exact b_nil.mpr ⟨_, _, _, _, _, rfl, .inr rfl, rfl, i5, i6, i7⟩
  · subst es
    exact b_cons.mpr <| s_ret.mpr <| e_con.mpr <| w_retd q
end
end KA

/-! KA13: the law. -/
namespace KA
open PySem GS ND
theorem nice_name {x : Str} (h : IsName x) : niceD (.str x) = true := by
  obtain ⟨n, _, _, nm⟩ := h
  show (x.cps.toList.all fun c => decide (97 ≤ c) && decide (c < 123)) = true
  refine List.all_eq_true.mpr fun c hc => ?_
  obtain ⟨h1, h2⟩ := nm.low c hc
  rw [decide_eq_true h1, decide_eq_true h2]
  rfl
theorem len_name {x : Str} (h : IsName x) : (PyData.str x).weight ≤ 8 := by
  obtain ⟨n, _, h8, nm⟩ := h
  show x.cps.size ≤ 8
  have : x.cps.size = n := nm.len
  omega
theorem nice_int {i : Int} (h : i.natAbs < 10 ^ 10) : niceD (.int i) = true := decide_eq_true h
theorem nice_strL {l : List Str} (h : ∀ x ∈ l, IsName x) : niceA (strL l) = true := niceA_of fun x hx => by
  obtain ⟨y, hy, rfl⟩ := List.mem_map.mp hx
  exact nice_name (h y hy)
theorem kind_ok : ∀ x ∈ kinds, niceD (.str x) = true ∧ (PyData.str x).weight ≤ 8 := by
  intro x hx
  have all : (kinds.all fun x => niceD (.str x) && decide (x.cps.size ≤ 8)) = true := by decide +kernel
  have := List.all_eq_true.mp all x hx
  rw [Bool.and_eq_true, decide_eq_true_eq] at this
  exact this
/-- what a datum here weighs and how deep it is -/
structure Fine (d : D) (B k : Nat) : Prop where
  nice : niceD d = true
  w : d.weight ≤ B
  dp : d.depth ≤ k
theorem fine_tup {xs : List D} {B k : Nat} (L : Nat) (h : ∀ x ∈ xs, Fine x B k) (l : xs.length ≤ L) : Fine (.tuple xs) (L * (B + 1)) (k + 1) := by
  refine ⟨niceA_of fun x hx => (h x hx).nice, ?_, ?_⟩
  · exact Nat.le_trans (weightA_le fun x hx => (h x hx).w) (Nat.mul_le_mul_right _ l)
  · show (PyData.tuple xs).depth ≤ k + 1
    rw [PyData.depth]
    have := depthA_of (k := k) fun x hx => (h x hx).dp
    omega
theorem Fine.mono {d : D} {B k B' k' : Nat} (h : Fine d B k) (b : B ≤ B') (kk : k ≤ k') : Fine d B' k' := ⟨h.nice, Nat.le_trans h.w b, Nat.le_trans h.dp kk⟩
theorem fine_name {x : Str} (h : IsName x) : Fine (.str x) 8 0 := ⟨nice_name h, len_name h, Nat.le_refl _⟩
theorem fine_int {i : Int} (h : i.natAbs < 10 ^ 10) : Fine (.int i) 40 0 := ⟨nice_int h, int_weight h, Nat.le_refl _⟩
theorem fine_names {l : List Str} (h : ∀ x ∈ l, IsName x) (L : Nat) (le : l.length ≤ L) : Fine (.tuple (strL l)) (L * 9) 1 :=
  fine_tup L (fun x hx => by
    obtain ⟨y, hy, rfl⟩ := List.mem_map.mp hx
    exact fine_name (h y hy)) (by rw [strL, List.length_map]; exact le)
theorem mem4 {a b c d : D} {Q : D → Prop} (h1 : Q a) (h2 : Q b) (h3 : Q c) (h4 : Q d) : ∀ x ∈ [a, b, c, d], Q x := by
  intro x hx
  simp only [List.mem_cons, List.not_mem_nil, or_false] at hx
  rcases hx with rfl | rfl | rfl | rfl
  · exact h1
  · exact h2
  · exact h3
  · exact h4
theorem fine_net {n : Net} {m : Nat} (h : n.Ok m) (sm : Small n) {c : Clk} (hc : c.Ok n) : Fine (.tuple [n.toD, c.toD]) 1000000 10 := by
  have nm := h.names
  have nIn : ∀ x ∈ n.ins, IsName x := fun x hx => nm x (List.mem_append_left _ (List.mem_append_left _ (List.mem_append_left _ hx)))
  have nRg : ∀ x ∈ n.regs.map (·.name), IsName x := fun x hx => nm x (List.mem_append_left _ (List.mem_append_left _ (List.mem_append_right _ hx)))
  have nOu : ∀ x ∈ n.outs.map (·.1), IsName x := fun x hx => nm x (List.mem_append_left _ (List.mem_append_right _ hx))
  have nGt : ∀ x ∈ n.gates.map (·.name), IsName x := fun x hx => nm x (List.mem_append_right _ hx)
  have nSG : ∀ x ∈ n.starts ++ n.gates.map (·.name), IsName x := fun x hx => by
    rcases List.mem_append.mp hx with z | z
    · unfold Net.starts at z
      rcases List.mem_append.mp z with z | z
      · exact nIn x z
      · exact nRg x z
    · exact nGt x z
  have nEnd : ∀ x ∈ n.ends, IsName x := fun x hx => nSG x (h.data x hx)
  obtain ⟨cc, ord, c1, c3, pm, rk, _⟩ := h.order
  have gates : ∀ x ∈ n.gates.map Gate.toD, Fine x (4 * 300 + 4) 4 := by
    intro x hx
    obtain ⟨g, hg, rfl⟩ := List.mem_map.mp hx
    obtain ⟨a, b, e⟩ := List.append_of_mem (pm.mem_iff.mpr hg)
    have ok := rk a b g e
    have pins : ∀ x ∈ g.pins, IsName x := fun x hx => by
      rcases List.mem_append.mp (ok.ins x hx) with z | z
      · exact nSG x (List.mem_append_left _ z)
      · obtain ⟨y, hy, rfl⟩ := List.mem_map.mp z
        exact nGt _ (List.mem_map.mpr ⟨y, pm.mem_iff.mp (by rw [e]; exact List.mem_append_left _ hy), rfl⟩)
    have dl : Fine (.tuple (g.dl.map pairD)) (3 * 83) 2 := fine_tup 3 (fun x hx => by
      obtain ⟨q, hq, rfl⟩ := List.mem_map.mp hx
      have := ok.pairs q hq
      unfold Pair at this
      refine (fine_tup (xs := [.int q.1, .int q.2]) (B := 40) (k := 0) 2 (fun y hy => ?_) (Nat.le_refl _)).mono (by decide) (Nat.le_refl _)
      simp only [List.mem_cons, List.not_mem_nil, or_false] at hy
      rcases hy with rfl | rfl
      · exact fine_int (by omega)
      · exact fine_int (by omega)) (by rw [List.length_map, ok.dls]; exact c3)
    obtain ⟨k1, k2⟩ := kind_ok _ ok.kind
    exact (fine_tup (B := 300) (k := 3) 4 (mem4 ((fine_name (nGt _ (List.mem_map.mpr ⟨g, hg, rfl⟩))).mono (by decide) (by decide)) (⟨k1, Nat.le_trans k2 (by decide), Nat.zero_le _⟩) ((fine_names pins 3 ok.few).mono (by decide) (by decide)) (dl.mono (by decide) (by decide))) (Nat.le_refl _)).mono (by decide) (Nat.le_refl _)
  have regs : ∀ x ∈ n.regs.map Reg.toD, Fine x (6 * 41) 1 := by
    intro x hx
    obtain ⟨r, hr, rfl⟩ := List.mem_map.mp hx
    obtain ⟨b1, b2, b3, b4⟩ := h.regs r hr
    refine fine_tup (B := 40) (k := 0) 6 (fun y hy => ?_) (Nat.le_refl _)
    simp only [List.mem_cons, List.not_mem_nil, or_false] at hy
    rcases hy with rfl | rfl | rfl | rfl | rfl | rfl
    · exact (fine_name (nRg _ (List.mem_map.mpr ⟨r, hr, rfl⟩))).mono (by decide) (Nat.le_refl _)
    · exact (fine_name (nEnd _ (List.mem_append_left _ (List.mem_map.mpr ⟨r, hr, rfl⟩)))).mono (by decide) (Nat.le_refl _)
    · exact fine_int (by omega)
    · exact fine_int (by omega)
    · exact fine_int (by omega)
    · exact fine_int (by omega)
  have outs : ∀ x ∈ n.outs.map outD, Fine x (2 * 9) 1 := by
    intro x hx
    obtain ⟨r, hr, rfl⟩ := List.mem_map.mp hx
    refine fine_tup (B := 8) (k := 0) 2 (fun y hy => ?_) (Nat.le_refl _)
    simp only [List.mem_cons, List.not_mem_nil, or_false] at hy
    rcases hy with rfl | rfl
    · exact fine_name (nOu _ (List.mem_map.mpr ⟨r, hr, rfl⟩))
    · exact fine_name (nEnd _ (List.mem_append_right _ (List.mem_map.mpr ⟨r, hr, rfl⟩)))
  have fn : Fine n.toD 200000 6 := (fine_tup (B := 40000) (k := 5) 4 (mem4 ((fine_names nIn 6 sm.i).mono (by decide) (by decide)) ((fine_tup 30 gates (by rw [List.length_map]; exact sm.g)).mono (by decide) (Nat.le_refl _)) ((fine_tup 4 regs (by rw [List.length_map]; exact sm.r)).mono (by decide) (by decide)) ((fine_tup 4 outs (by rw [List.length_map]; exact sm.o)).mono (by decide) (by decide))) (Nat.le_refl _)).mono (by decide) (Nat.le_refl _)
  have fc : Fine c.toD 200000 6 := by
    refine (fine_tup (xs := [.int c.beat, .tuple (c.sk.map PyData.int)]) (B := 200) (k := 1) 2 (fun y hy => ?_) (Nat.le_refl _)).mono (by decide) (by decide)
    simp only [List.mem_cons, List.not_mem_nil, or_false] at hy
    have b1 := hc.b1
    have b2 := hc.b2
    rcases hy with rfl | rfl
    · exact (fine_int (by omega)).mono (by decide) (by decide)
    · refine (fine_tup (B := 40) (k := 0) 4 (fun y hy => ?_) (by rw [List.length_map, hc.len]; exact sm.r)).mono (by decide) (Nat.le_refl _)
      obtain ⟨z, hz, rfl⟩ := List.mem_map.mp hy
      have := hc.sk z hz
      exact fine_int (by omega)
  refine (fine_tup (xs := [n.toD, c.toD]) (B := 200000) (k := 6) 2 (fun y hy => ?_) (Nat.le_refl _)).mono (by decide) (by decide)
  simp only [List.mem_cons, List.not_mem_nil, or_false] at hy
  rcases hy with rfl | rfl
  · exact fn
  · exact fc
/-- the one by hand -/
def handN : Net := ⟨["x"], [], [⟨"r", "r", 3, 2, -5, 5⟩, ⟨"q", "x", 1, 4, 0, 0⟩], [("y", "r"), ("z", "x")]⟩
theorem hand_ok : handN.Ok 9 := by
  have nm : ∀ x ∈ (["x", "r", "q", "y", "z"] : List Str), IsName x := by
    intro x hx
    have all : ((["x", "r", "q", "y", "z"] : List Str).all fun x => decide (x.length = 1) && x.cps.toList.all fun c => decide (97 ≤ c) && decide (c < 123)) = true := by decide +kernel
    exact ⟨1, by decide, by decide, nmB x 1 (List.all_eq_true.mp all x hx)⟩
  refine ⟨by decide +kernel, nm, ⟨1, [], by decide, by decide, .refl _, fun a b g e => absurd e (by simp), by decide +kernel⟩, ?_, by decide, by decide, by decide, by decide, by decide, ?_⟩
  · have all : (handN.ends.all fun x => decide (x ∈ handN.starts ++ handN.gates.map (·.name))) = true := by decide +kernel
    exact fun x hx => of_decide_eq_true (List.all_eq_true.mp all x hx)
  · intro r hr
    have hr : r = ⟨"r", "r", 3, 2, -5, 5⟩ ∨ r = ⟨"q", "x", 1, 4, 0, 0⟩ := by
      rcases List.mem_cons.mp hr with h | h
      · exact .inl h
      · exact .inr (List.mem_singleton.mp h)
    rcases hr with rfl | rfl
    · exact ⟨by decide, by decide, by decide, by decide⟩
    · exact ⟨by decide, by decide, by decide, by decide⟩
section
variable {p : Prog}
theorem r_law (N : ND.Has p) (A : Has p) (C : Con p) (k : Nat) (ns : List Int) (hl : ns.length ≤ 63) : wpR (run p (k + 10) "law" [.d (.list (ns.map PyData.int))]) (fun v o => v = .d (.bool true) ∧ o = none) fun _ _ => False := by
  refine wp_run A.f_law rfl fun O hΦ hG hΛ => ?_
  have Dw := draws (k := k + 7) N hΦ
  show WG (exB O k_law [.val (.list (ns.map PyData.int)), .emp, .emp, .emp, .emp, .emp, .emp, .emp]) _ _
  unfold k_law
  refine b_cons.mpr <| s_set.mpr <| e_call <| e_cons.mpr <| (e_val rfl).mpr <| e_nil.mpr ⟨[.d (.list (ns.map PyData.int))], rfl, ?_⟩
  rw [hΦ]
  refine wpR_of (begin_at N (k + 8) ns hl) ⟨_, rfl, put_o (x := .emp) rfl rfl ?_⟩
  have h0 : (⟨ns ++ [0], 0, 0, 0⟩ : Dr).Ok 0 := ⟨by simp, by rw [List.length_append, List.length_singleton]; omega, Int.le_refl _, Int.le_refl _, Int.le_refl _, Int.le_refl _, Int.le_refl _⟩
  generalize (⟨ns ++ [0], 0, 0, 0⟩ : Dr) = d0 at h0
  -- three drawn
  unfold q_law_0
  have a1 : WG (ev O (.comp [6] (.nm 6) (.rng1 (.con (.int (3)))) .nil (.call ("_law_netlist" : Str) (.cons (.var 1) (.cons (.call ("_law_next" : Str) (.cons (.var 1) (.cons (.con (.int (10))) .nil)) [.io 0, .pos 1]) .nil)) [.io 0, .pos 1])) [.val (.list (ns.map PyData.int)), .own d0.ob, .emp, .emp, .emp, .emp, .emp, .emp])
      (fun v s => ∃ (nets : List Net) (d1 : Dr), v = .own (.lst (nets.map Net.toD)) ∧ s = [.val (.list (ns.map PyData.int)), .own d1.ob, .emp, .emp, .emp, .emp, .emp, .emp] ∧ nets.length = 3 ∧ (∀ n ∈ nets, ∃ m, m ≤ 9 ∧ n.Ok m) ∧ d1.Ok 100000) (fun _ _ => False) := by
    refine e_comp <| i_rng1 (n := 3) (by decide) <| e_con.mpr ⟨rfl, rfl, w_wipe1 (x := .emp) rfl rfl ?_⟩
    refine wp_comp (fun j acc s => ∃ (nets : List Net) (d1 : Dr), acc = nets.map Net.toD ∧ s = [.val (.list (ns.map PyData.int)), .own d1.ob, .emp, .emp, .emp, .emp, .emp, .emp] ∧ nets.length = j ∧ (∀ n ∈ nets, ∃ m, m ≤ 9 ∧ n.Ok m) ∧ d1.Ok (30000 * j)) (fun j x acc s hx ⟨nets, d1, ea, es, l, w, h1⟩ => ?_) (fun acc s ⟨nets, d1, ea, es, l, w, h1⟩ => ?_) ⟨[], d0, rfl, rfl, rfl, (fun _ z => nomatch z), by simpa using h0⟩
    · subst ea es
      have hj : j < 3 := by simpa using (List.getElem?_eq_some_iff.mp hx).1
      obtain ⟨v, d2, e2, v0, v1, h2⟩ := Dw.next d1 (30000 * j) 10 h1 (by omega) (by decide) (by decide)
      obtain ⟨m, rfl⟩ := Int.eq_ofNat_of_zero_le v0
      refine bind_nm (x := .emp) rfl rfl <| t_nil <| WG_bind.mpr <| e_call <| e_cons.mpr <| (e_own rfl).mpr <| e_cons.mpr <| e_call <| e_cons.mpr <| (e_own rfl).mpr <| e_cons.mpr <| e_con.mpr <| e_nil.mpr ⟨[.io d1.ob, .d (.int 10)], rfl, wpR_of e2 ⟨_, rfl, e_nil.mpr ⟨[.io d2.ob, .d (.int m)], rfl, ?_⟩⟩⟩
      rw [hΦ]
      refine r_netlist N (k + 4) d2 (30000 * j + 1) h2 (by omega) m (by omega) fun n d3 hn h3 => ⟨_, rfl, w_frzd ⟨by rw [List.length_map, sl16]; omega, w_wipe1 (x := .val x) rfl rfl ⟨nets ++ [n], d3, by rw [List.map_append]; rfl, rfl, by rw [List.length_append, l]; rfl, fun z hz => ?_, h3.mono (by omega)⟩⟩⟩
      rcases List.mem_append.mp hz with hz | hz
      · exact w z hz
      · rw [List.mem_singleton.mp hz]
        exact ⟨m, by omega, hn⟩
    · subst ea es
      rw [List.length_map, List.length_range] at l h1
      exact ⟨nets, d1, rfl, rfl, l, w, h1.mono (by omega)⟩
  refine b_cons.mpr <| s_set.mpr <| a1.mono (fun v s ⟨nets, d1, ev1, es1, ln, hn, h1⟩ => ?_) fun _ _ z => z.elim
  subst ev1 es1
  refine put_o (x := .emp) rfl rfl ?_
  -- and one by hand
  have hm : mutD "append" (.lst (nets.map Net.toD)) [handN.toD] = some (.none, .lst ((nets ++ [handN]).map Net.toD)) := by
    show (if (nets.map Net.toD).length < sizeLine then some (PyData.none, Ob.lst (nets.map Net.toD ++ [handN.toD])) else none) = _
    rw [if_pos (by rw [List.length_map, sl16]; omega), List.map_append]
    rfl
  refine b_cons.mpr <| s_ex.mpr <| e_mut ⟨rfl, e_cons.mpr <| e_tup.mpr <| e_cons.mpr <| e_tup.mpr <| e_cons.mpr <| e_con.mpr <| e_nil.mpr <| w_frzL (ds := [.str "x"]) ⟨one_size, e_cons.mpr <| e_tup.mpr <| e_nil.mpr <| w_frzL (ds := []) ⟨Nat.zero_le _, e_cons.mpr <| e_tup.mpr <|
    e_cons.mpr <| e_tup.mpr <| e_cons.mpr <| e_con.mpr <| e_cons.mpr <| e_con.mpr <| e_cons.mpr <| e_con.mpr <| e_cons.mpr <| e_con.mpr <| e_cons.mpr <| e_neg <| e_con.mpr ⟨5, rfl, e_cons.mpr <| e_con.mpr <| e_nil.mpr <| w_frzL (ds := [.str "r", .str "r", .int 3, .int 2, .int (-5), .int 5]) ⟨by rw [sl16]; show 6 ≤ 16777216; decide,
    e_cons.mpr <| e_tup.mpr <| e_cons.mpr <| e_con.mpr <| e_cons.mpr <| e_con.mpr <| e_cons.mpr <| e_con.mpr <| e_cons.mpr <| e_con.mpr <| e_cons.mpr <| e_con.mpr <| e_cons.mpr <| e_con.mpr <| e_nil.mpr <| w_frzL (ds := [.str "q", .str "x", .int 1, .int 4, .int 0, .int 0]) ⟨by rw [sl16]; show 6 ≤ 16777216; decide,
    e_nil.mpr <| w_frzL (ds := [.tuple [.str "r", .str "r", .int 3, .int 2, .int (-5), .int 5], .tuple [.str "q", .str "x", .int 1, .int 4, .int 0, .int 0]]) ⟨two_le, e_cons.mpr <| e_tup.mpr <| e_cons.mpr <| e_tup.mpr <| e_cons.mpr <| e_con.mpr <| e_cons.mpr <| e_con.mpr <| e_nil.mpr <| w_frzL (ds := [.str "y", .str "r"]) ⟨two_le,
    e_cons.mpr <| e_tup.mpr <| e_cons.mpr <| e_con.mpr <| e_cons.mpr <| e_con.mpr <| e_nil.mpr <| w_frzL (ds := [.str "z", .str "x"]) ⟨two_le, e_nil.mpr <| w_frzL (ds := [.tuple [.str "y", .str "r"], .tuple [.str "z", .str "x"]]) ⟨two_le,
    e_nil.mpr <| w_frzL (ds := [.tuple [.str "x"], .tuple [], .tuple [.tuple [.str "r", .str "r", .int 3, .int 2, .int (-5), .int 5], .tuple [.str "q", .str "x", .int 1, .int 4, .int 0, .int 0]], .tuple [.tuple [.str "y", .str "r"], .tuple [.str "z", .str "x"]]]) ⟨by rw [sl16]; show 4 ≤ 16777216; decide,
    e_nil.mpr <| w_frzL (ds := [handN.toD]) ⟨nets.map Net.toD, .none, .lst ((nets ++ [handN]).map Net.toD), rfl, hm, ?_⟩⟩⟩⟩⟩⟩⟩⟩⟩⟩⟩⟩
  have all : ∀ n ∈ nets ++ [handN], ∃ m, m ≤ 9 ∧ n.Ok m := fun n h => by
    rcases List.mem_append.mp h with h | h
    · exact hn n h
    · rw [List.mem_singleton.mp h]
      exact ⟨9, Nat.le_refl _, hand_ok⟩
  have l4 : (nets ++ [handN]).length = 4 := by rw [List.length_append, ln]; rfl
  generalize nets ++ [handN] = nets4 at all l4
  -- each is told right
  unfold q_law_2
  refine b_cons.mpr <| s_for <| i_lv rfl (.inl rfl) ?_
  refine ⟨fun j s => ∃ (d' : Dr) (x3 x4 x5 : Sl), s = [.val (.list (ns.map PyData.int)), .own d'.ob, .val (.list (nets4.map Net.toD)), x3, x4, x5, .emp, .emp] ∧ isIo (some x3) = false ∧ isIo (some x4) = false ∧ isIo (some x5) = false ∧ d'.Ok (100000 + 100 * j),
    ⟨d1, .emp, .emp, .emp, rfl, rfl, rfl, rfl, h1.mono (by omega)⟩, fun j x s hx ⟨d2, x3, x4, x5, es, i3, i4, i5, h2⟩ => ?_, fun s ⟨d2, x3, x4, x5, es, _⟩ => ?_⟩
  · subst es
    have hj : j < 4 := by
      have := (List.getElem?_eq_some_iff.mp hx).1
      rw [List.length_map, l4] at this
      exact this
    obtain ⟨n, hn, rfl⟩ := List.mem_map.mp (List.mem_of_getElem? hx)
    obtain ⟨m, m9, ok⟩ := all n hn
    have sm : Small n := small ok (by omega)
    refine bind_nm (x := x3) rfl i3 <| b_cons.mpr <| s_set.mpr <| e_call <| e_cons.mpr <| (e_own rfl).mpr <| e_cons.mpr <| (e_val rfl).mpr <| e_nil.mpr ⟨[.io d2.ob, .d n.toD], rfl, ?_⟩
    rw [hΦ]
    refine r_clock N A (k + 6) d2 (100000 + 100 * j) h2 (by omega) n sm fun c d3 hc h3 => ⟨_, rfl, put_v (x := x4) rfl i4 ?_⟩
    have fine := fine_net ok sm hc
    have rp : biD "repr" [.tuple [n.toD, c.toD]] = some (.d (.str (PyData.tuple [n.toD, c.toD]).shown)) := b_repr fine.nice (Nat.le_trans fine.dp (by decide)) fine.w
    refine b_cons.mpr <| s_set.mpr <| e_bi.mpr <| e_cons.mpr <| e_tup.mpr <| e_cons.mpr <| (e_val rfl).mpr <| e_cons.mpr <| (e_val rfl).mpr <| e_nil.mpr <| w_frzL (ds := [n.toD, c.toD]) ⟨two_le, e_nil.mpr ⟨_, rp, put_v (x := x5) rfl i5 ?_⟩⟩
    unfold q_law_1
    refine b_cons.mpr <| s_ife.mpr <| e_or.mpr <| e_not.mpr <| e_bi.mpr <| e_cons.mpr <| e_map <| i_v <| e_call <| e_cons.mpr <| (e_val rfl).mpr <| e_nil.mpr ⟨[.d n.toD], rfl, ?_⟩
    rw [hΦ]
    refine r_law_ways A (k + 8) n ok sm (Nat.le_trans ok.fewG m9) fun ws hws lws => ⟨_, rfl, w_frzo ⟨ws.map wD, rfl, .emp, fun _ => .bool true, rfl, rfl, by rw [List.length_map, sl16]; omega, fun x hx => ?_, ?_⟩⟩
    · obtain ⟨w, hw, rfl⟩ := List.mem_map.mp hx
      obtain ⟨pw, lw⟩ := hws w hw
      refine e_call <| e_cons.mpr <| (e_val rfl).mpr <| e_cons.mpr <| (e_val rfl).mpr <| e_cons.mpr <| (e_val rfl).mpr <| e_nil.mpr ⟨[.d n.toD, .d c.toD, .d (.tuple (strL w))], rfl, ?_⟩
      rw [hΦ]
      exact r_way_right A C (k + 3) n ok sm c hc w pw (by omega) ⟨_, rfl, w_frzd ⟨rfl, rfl⟩⟩
    · have eb : (ws.map wD).map (fun _ => PyData.bool true) = (ws.map fun _ => true).map PyData.bool := by
        rw [List.map_map, List.map_map]
        rfl
      rw [eb]
      refine e_nil.mpr ⟨_, b_all _, true, ?_, false, rfl, ?_⟩
      · have t : ((ws.map fun _ => true).all id) = true := by
          rw [List.all_eq_true]
          intro b hb
          obtain ⟨_, _, rfl⟩ := List.mem_map.mp hb
          rfl
        rw [t]
        rfl
      refine e_cmp.mpr <| e_bi.mpr <| e_cons.mpr <| e_tup.mpr <| e_cons.mpr <| (e_val rfl).mpr <| e_cons.mpr <| (e_val rfl).mpr <| e_nil.mpr <| w_frzL (ds := [n.toD, c.toD]) ⟨two_le, e_nil.mpr ⟨_, rp, (e_val rfl).mpr ⟨_, _, rfl, rfl, _, ne_same _, false, rfl, b_nil.mpr <| b_nil.mpr ⟨d3, _, _, _, rfl, rfl, rfl, rfl, h3.mono (by omega)⟩⟩⟩⟩
  · subst es
    exact b_cons.mpr <| s_ret.mpr <| e_con.mpr <| w_retd ⟨rfl, rfl⟩
end
end KA

namespace K24
open PySem GS
theorem nd : ND.Has prog := by
  constructor
  · kernel_rfl
  · kernel_rfl
  · kernel_rfl
  · kernel_rfl
  · kernel_rfl
  · kernel_rfl
  · kernel_rfl
  · kernel_rfl
  · kernel_rfl
  · kernel_rfl
  · rfl
theorem ka : KA.Has prog := by
  constructor
  · kernel_rfl
  · kernel_rfl
  · kernel_rfl
  · kernel_rfl
  · kernel_rfl
  · kernel_rfl
  · kernel_rfl
  · kernel_rfl
  · kernel_rfl
  · kernel_rfl
  · kernel_rfl
  · kernel_rfl
  · kernel_rfl
  · kernel_rfl
  · kernel_rfl
  · kernel_rfl
  · kernel_rfl
  · kernel_rfl
  · kernel_rfl
  · kernel_rfl
  · kernel_rfl
  · kernel_rfl
  · kernel_rfl
  · kernel_rfl
  · kernel_rfl
  · kernel_rfl
  · rfl
theorem con : KA.Con prog := by
  constructor
  · kernel_rfl
  · kernel_rfl
  · kernel_rfl
  · kernel_rfl
theorem main (ns : List Int) (hl : ns.length ≤ 63) : GS.run prog 60 "law" [.d (.list (ns.map PyData.int))] = .ok (.d (.bool true)) none :=
  wpR_eq (KA.r_law nd ka con 50 ns hl)
end K24
theorem PySem.Challenge.cw_gateslack_k24_slacks_along_paths_holds : PySem.Challenge.rw_gateslack_k24_slacks_along_paths.Holds :=
  K24.holds_of K24.main
