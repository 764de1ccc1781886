import PyProof.Rows.All
import Wide.All
import OpenK.AllK
import Wide.FinOn
import HandS.ForMost
import HandS.Lambda
import HandS.ExcSuper
import HandS.HeadWalk
import KE.KeyNested
import HandS.TupAny
import HandS.TupMul
import HandS.Wide
import HandS.WideBits
import HandS.Gcd
import HandS.Deep
import HandS.Style
import HandS.IsInst
import HandS.Conv
import HandS.Rev
import HandS.Zip
import HandS.RaiseMore
import HandS.TupLe
import HandS.Flt
import HandS.Defaults
import HandS.HeadHook2
import HandS.Iter
import HandS.Comp
import KE.KUnpack
import HandS.Dict
import HandS.Head0
import HandS.Head1
import HandS.Head2
import HandS.Head3
import HandS.HeadEnd
import HandS.HeadHook1
import HandS.EndBits
import KE.GoesMore
import KE.KDictDisplayH
import HandS.Text
import HandS.ExcField
import HandS.ExcIs
import KE.KExcInit
import KE.KSuper
import KE.KTryMore
import HandS.TryMany
import KE.KExcIs
import PySem.Challenge.RW_quotientcells_k00_schemes_of_any_value
set_option Elab.async false
set_option linter.all false
set_option maxRecDepth 100000
set_option maxHeartbeats 4000000
set_option exponentiation.threshold 100000
namespace Q
open PySem
abbrev D := PyData

/-- what a name of a body holds: data that nobody changes, a list of this body's own, the deck, an instance (its fields fixed), a nameless function -/
inductive Sl where
  | d (x : D)
  | own (xs : List D)
  | deck
  | obj (c : Str) (fs : List (Str × D))
  | clo (j : Nat) (env : List (Option Sl))
  | exn (c : Str) (x : D)
  | dic (ps : List (NestedKey × D))
  | slf

structure Dk where
  key : Str
  left : List Int
  mixed : Int
  draws : Int
abbrev Ds := Option Dk

inductive Rs (α : Type) where
  | ok (a : α) (k : Ds)
  | ex (c : Str) (x : D) (k : Ds)
  | no
def Rs.bind {α β : Type} (r : Rs α) (f : α → Ds → Rs β) : Rs β := match r with
  | .ok a k => f a k
  | .ex c x k => .ex c x k
  | .no => .no
@[simp] theorem yQ {α β : Type} (a : α) (k : Ds) (f : α → Ds → Rs β) : (Rs.ok a k).bind f = f a k := rfl
@[simp] theorem Rs.bind_ex {α β : Type} (c : Str) (x : D) (k : Ds) (f : α → Ds → Rs β) : (Rs.ex c x k : Rs α).bind f = .ex c x k := rfl
@[simp] theorem Rs.bind_no {α β : Type} (f : α → Ds → Rs β) : (Rs.no : Rs α).bind f = .no := rfl
def opt {α : Type} (o : Option α) (k : Ds) : Rs α := match o with
  | some a => .ok a k
  | none => .no

inductive Ty where | int | bool | tuple | str
inductive Bt where
  | len | int | abs | max | min | sum | all | any | tuple | list | repr | gcd | str | sorted | bitlen
/-- methods of texts -/
inductive Mt where
  | upper | starts | ends | join | split
/-- targets -/
inductive Tg where
  | name (i : Nat)
  | tup (gs : List Tg)
mutual
inductive IE where
  | con (x : D)
  | var (i : Nat)
  | glob (x : Str)
  | bop (op : Operator) (a b : IE)
  | neg (a : IE)
  | not_ (a : IE)
  | and_ (a b : IE)
  | or_ (a b : IE)
  | cmp (op : CmpOp) (a b : IE)
  | chain (o p : CmpOp) (a b c : IE)
  | ite (c a b : IE)
  | tup (es : List IE)
  | lst (es : List IE)
  | idx (a i : IE)
  | sl (a : IE) (lo hi : Option IE)
  | rev (a : IE)
  | revl (a : IE)
  | call (f : Nat) (es : List IE)
  | callk (f : Nat) (es : List IE) (perm : List Nat)
  | callv (i : Nat) (es : List IE)
  | blt (b : Bt) (es : List IE)
  | isi (t : Ty) (a : IE)
  | attr (a : IE) (f : Str)
  | comp (e : IE) (g : Tg) (it : IT) (cs : List IE) (ws : List Nat)
  | lam (j : Nat)
  | dkGet (i : Nat) (f : Str)
  | dkNe (i : Nat) (f : Str)
  | dget (i : Nat) (k d : IE)
  | dgetL (ps : List (NestedKey × D)) (k d : IE)
  | rngc (t : Bool) (es : List IE)
  | dct (ks : List D) (es : List IE)
  | meth (m : Mt) (a : IE) (es : List IE)
  | fld (c : Str) (a : IE) (f : Str)
  | make (c : Str) (f : Nat) (es : List IE)
  | cmth (c m : Str) (f : Nat) (a : IE) (es : List IE)
  | xat (i : Nat) (f : Str)
  | isx (i : Nat) (cs : List Str)
  | lamc (f j : Nat)
inductive IT where
  | seq (e : IE)
  | rng (es : List IE)
  | enum (e : IE)
  | zip (a b : IE)
end
mutual
inductive IS where
  | asg (i : Nat) (e : IE)
  | own (i : Nat) (e : IE)
  | asgT (g : Tg) (e : IE)
  | par (is : List (Nat × Bool)) (es : List IE)
  | app (i : Nat) (e : IE)
  | ext (i : Nat) (e : IE)
  | put (i : Nat) (j e : IE)
  | aug (i : Nat) (op : Operator) (e : IE)
  | ex (e : IE)
  | ret (e : IE)
  | retn
  | pass
  | brk
  | cont
  | ite (c : IE) (a b : List IS)
  | for_ (g : Tg) (it : IT) (b : List IS)
  | while_ (c : IE) (b : List IS)
  | raise (c : Str) (e : IE)
  | try_ (b : List IS) (hs : List IH)
  | frz (i : Nat)
  | never
  | dkSet (i : Nat) (f : Str) (e : IE)
  | dkPop (j i : Nat) (f : Str)
  | dkApp (i : Nat) (f : Str) (e : IE)
  | dkRet (f : Str) (s m d : IE)
  | dicB (i : Nat) (ps : List (NestedKey × D))
  | parG (gs : List Tg) (i : Nat) (es : List IE)
  | mkobj (c : Str) (ns : List Str) (es : List IE)
  | lamb (is : List Nat) (e : IE)
inductive IH where
  | h (cs : List Str) (n : Option Nat) (b : List IS)
end

/-! ### operations on data -/
def smallI (i : Int) : Bool := decide (i.natAbs < 2 ^ 64)
def mulOk (i j : Int) : Bool := smallI i || (smallI j || decide (i.natAbs.log2 + j.natAbs.log2 < 1000000))
def divOk (j : Int) : Bool := decide (0 < j) && decide (j.natAbs.log2 < 9000)
def powOk (i j : Int) : Bool := decide (0 ≤ j) && decide (j ≤ 1000000) && decide (i.natAbs < 2 ^ 64)
def lenOk (n : Nat) : Bool := decide (n ≤ sizeLine)
def rep {α : Type} (xs : List α) (n : Nat) : List α := (List.replicate n xs).flatten
def bopD : Operator → D → D → Option D
  | .Add, .int a, .int b => some (.int (a + b))
  | .Sub, .int a, .int b => some (.int (a - b))
  | .Mult, .int a, .int b => if mulOk a b then some (.int (a * b)) else none
  | .FloorDiv, .int a, .int b => if divOk b then some (.int (a / b)) else none
  | .Mod, .int a, .int b => if 0 < b then some (.int (a % b)) else none
  | .Pow, .int a, .int b => if powOk a b then some (.int (a ^ b.toNat)) else none
  | .LShift, .int a, .int b => if powOk a b then some (.int (a * 2 ^ b.toNat)) else none
  | .RShift, .int a, .int b => if 0 ≤ b then some (.int (a / 2 ^ b.toNat)) else none
  | .BitAnd, .int a, .int b => some (.int (Builtin.bitAnd a b))
  | .BitOr, .int a, .int b => some (.int (Builtin.bitOr a b))
  | .BitXor, .int a, .int b => some (.int (Builtin.bitXor a b))
  | .Add, .str a, .str b => if lenOk (a.length + b.length) then some (.str (a ++ b)) else none
  | .Add, .tuple a, .tuple b => if lenOk (a.length + b.length) then some (.tuple (a ++ b)) else none
  | .Add, .list a, .list b => if lenOk (a.length + b.length) then some (.list (a ++ b)) else none
  | .Mult, .tuple a, .int n => if lenOk (a.length * n.toNat) && decide (n < 1000000) && decide (-1000000 < n) then some (.tuple (rep a n.toNat)) else none
  | .Mult, .list a, .int n => if lenOk (a.length * n.toNat) && decide (n < 1000000) && decide (-1000000 < n) then some (.list (rep a n.toNat)) else none
  | _, _, _ => none
def shp (d : D) : Bool := SeqAt.shaped d
/-- compared with an empty list, an empty tuple of its own kind -/
def bareE : D → D → Bool
  | .list _, .list [] => true
  | .tuple _, .tuple [] => true
  | _, _ => false
def shpE (a b : D) : Bool := (shp a && shp b) || bareE a b
def isNoneD : D → Bool
  | .none => true
  | _ => false
def cmpD : CmpOp → D → D → Option Bool
  | .Eq, .int a, .int b => some (decide (a = b))
  | .NotEq, .int a, .int b => some (!decide (a = b))
  | .Eq, .str a, .str b => some (decide (a = b))
  | .NotEq, .str a, .str b => some (!decide (a = b))
  | .Eq, a, b => if shpE a b then some (PyData.eqv a b) else none
  | .NotEq, a, b => if shpE a b then some (!PyData.eqv a b) else none
  | .Lt, .int a, .int b => some (decide (a < b))
  | .LtE, .int a, .int b => some (decide (a ≤ b))
  | .Gt, .int a, .int b => some (decide (b < a))
  | .GtE, .int a, .int b => some (decide (b ≤ a))
  | .Is, .bool a, .bool b => some (decide (a = b))
  | .IsNot, .bool a, .bool b => some (!decide (a = b))
  | .Is, a, .none => some (isNoneD a)
  | .IsNot, a, .none => some (!isNoneD a)
  | .In, .str a, .str b => some (!(Builtin.Str.occurrences b a 0 b.length 1).isEmpty)
  | .NotIn, .str a, .str b => some (!(!(Builtin.Str.occurrences b a 0 b.length 1).isEmpty))
  | .In, a, .tuple xs => if shp a && shp (.tuple xs) then some (xs.any fun z => PyData.eqv z a) else none
  | .NotIn, a, .tuple xs => if shp a && shp (.tuple xs) then some (!xs.any fun z => PyData.eqv z a) else none
  | .In, a, .list xs => if shp a && shp (.list xs) then some (xs.any fun z => PyData.eqv z a) else none
  | .NotIn, a, .list xs => if shp a && shp (.list xs) then some (!xs.any fun z => PyData.eqv z a) else none
  | _, _, _ => none
def truD : D → Option Bool
  | .bool b => some b
  | _ => none
def negD : D → Option D
  | .int a => some (.int (-a))
  | _ => none
def isiD : Ty → D → Bool
  | .int, .int _ => true
  | .int, .bool _ => true
  | .bool, .bool _ => true
  | .tuple, .tuple _ => true
  | .str, .str _ => true
  | _, _ => false
def idxD : D → D → Option D
  | .tuple xs, .int i => L2.atI xs i
  | .list xs, .int i => L2.atI xs i
  | .str z, .int i => if lenOk z.length then (L2.atI z.cps.toList i).map fun c => .str ⟨#[c]⟩ else none
  | _, _ => none
def cutL {α : Type} (xs : List α) (lo hi : Option Int) : List α := (xs.drop (HT.sIx xs.length 0 lo)).take (HT.sIx xs.length xs.length hi - HT.sIx xs.length 0 lo)
def slD : D → Option Int → Option Int → Option D
  | .tuple xs, lo, hi => some (.tuple (cutL xs lo hi))
  | .list xs, lo, hi => some (.list (cutL xs lo hi))
  | _, _, _ => none
def revD : D → Option D
  | .tuple xs => some (.tuple xs.reverse)
  | .list xs => some (.list xs.reverse)
  | _ => none
def itemsD : D → Option (List D)
  | .tuple xs => some xs
  | .list xs => some xs
  | _ => none
def intsD : List D → Option (List Int)
  | [] => some []
  | .int i :: r => (intsD r).map (i :: ·)
  | _ => none
def boolsD : List D → Option (List Bool)
  | [] => some []
  | .bool b :: r => (boolsD r).map (b :: ·)
  | _ => none
def bltD : Bt → List D → Option D
  | .len, [.tuple xs] => some (.int xs.length)
  | .len, [.list xs] => some (.int xs.length)
  | .len, [.str z] => if lenOk z.length then some (.int z.length) else none
  | .int, [.int i] => some (.int i)
  | .int, [.bool b] => some (.int (if b then 1 else 0))
  | .abs, [.int i] => some (.int i.natAbs)
  | .max, [.int a, .int b] => some (.int (if b > a then b else a))
  | .max, [.int a, .int b, .int c] => some (.int (if c > (if b > a then b else a) then c else (if b > a then b else a)))
  | .min, [.int a, .int b] => some (.int (if b < a then b else a))
  | .max, [.list xs] => (intsD xs).bind fun ns => ns.max?.map .int
  | .min, [.list xs] => (intsD xs).bind fun ns => ns.min?.map .int
  | .sum, [x] => (itemsD x).bind fun xs => (intsD xs).map fun ns => .int ns.sum
  | .all, [x] => (itemsD x).bind fun xs => (boolsD xs).map fun bs => .bool (bs.all id)
  | .any, [x] => (itemsD x).bind fun xs => (boolsD xs).map fun bs => .bool (bs.any id)
  | .tuple, [x] => (itemsD x).map .tuple
  | .list, [x] => (itemsD x).map .list
  | .repr, [x] => if x.showable && lenOk x.shown.length && decide (x.depth ≤ 60) then some (.str x.shown) else none
  | .gcd, [.int a, .int b] => some (.int (Nat.gcd a.natAbs b.natAbs : Nat))
  | .bitlen, [.int i] => some (.int (Builtin.Int.intBits i : Nat))
  | .str, [.int i] => if decide (i.natAbs.log2 < 1920) then some (.str (toString i)) else none
  | .str, [.str a] => some (.str a)
  | .str, [.bool b] => some (.str (if b then "True" else "False"))
  | .str, [.none] => some (.str "None")
  | _, _ => none

mutual
def keyD : D → Option NestedKey
  | .none => some .none
  | .int i => some (.num i)
  | .str x => some (.text x)
  | .tuple ds => (keyDs ds).map NestedKey.tup
  | _ => none
def keyDs : List D → Option (List NestedKey)
  | [] => some []
  | d :: ds => (keyD d).bind fun k => (keyDs ds).map (k :: ·)
end
def dicAt (k : NestedKey) : List (NestedKey × D) → Option D
  | [] => none
  | p :: r => if p.1 = k then some p.2 else dicAt k r
def dicGet (ps : List (NestedKey × D)) (x y : D) : Option D := match keyD x with
  | some (.tup qs) => if decide ((NestedKey.tup qs).depth ≤ 8) then some ((dicAt (.tup qs) ps).getD y) else none
  | _ => none
def keyLit : D → Option L2.Key
  | .int i => some (.inl i)
  | .str x => some (.inr x)
  | _ => none
/-- the keys of a display, all unlike -/
def keyLits : List D → Option (List L2.Key)
  | [] => some []
  | d :: ds => (keyLit d).bind fun k => (keyLits ds).map (k :: ·)
def dctD (ks : List D) (xs : List D) : Option D := (keyLits ks).bind fun qs => if decide (qs.Nodup) && decide (qs.length = xs.length) && decide (qs.length ≤ 15) then some (.dict (ks.zip xs)) else none
def strsD : List D → Option (List Str)
  | [] => some []
  | .str i :: r => (strsD r).map (i :: ·)
  | _ => none
def mthD : Mt → Str → List D → Option D
  | .upper, a, [] => if decide (a.length ≤ 5592405) then some (.str (Txt.upper a)) else none
  | .starts, a, [.str b] => some (.bool (Txt.startswith a b))
  | .ends, a, [.str b] => some (.bool (Txt.endswith a b))
  | .join, a, [x] => (itemsD x).bind fun xs => (strsD xs).bind fun ys => if decide ((ys.map (·.length)).sum + ys.length * a.length ≤ 16777216) then some (.str (Txt.join a ys)) else none
  | .split, a, [.str b] => if !(b.length == 0) && decide (a.length + 2 ≤ sizeLine) then some (.list ((Txt.split a b).map PyData.str)) else none
  | _, _, _ => none

/-! ### names -/
abbrev Tau := List (Option Sl)
def varT (t : Tau) (i : Nat) : Option Sl := t.getD i none
def dat (s : Sl) : Option D := match s with
  | .d x => some x
  | _ => none
mutual
def bindG (g : Tg) (x : D) (t : Tau) : Option Tau := match g with
  | .name i => some (t.set i (some (.d x)))
  | .tup gs => match x with
    | .tuple xs => bindGs gs xs t
    | .list xs => bindGs gs xs t
    | _ => none
def bindGs (gs : List Tg) (xs : List D) (t : Tau) : Option Tau := match gs, xs with
  | [], [] => some t
  | g :: gs, x :: xs => (bindG g x t).bind fun t => bindGs gs xs t
  | _, _ => none
end
mutual
def Tg.names : Tg → List Nat
  | .name i => [i]
  | .tup gs => namesG gs
def namesG : List Tg → List Nat
  | [] => []
  | g :: gs => g.names ++ namesG gs
end

def wipeT (t : Tau) : List Nat → Tau
  | [] => t
  | w :: ws => (wipeT t ws).set w none
def isOwn : Option Sl → Bool
  | some (.own _) => true
  | _ => false
def noOwn (t : Tau) (ws : List Nat) : Bool := ws.all fun i => !isOwn (t.getD i none)
def noEx {α : Type} (r : Rs α) : Rs α := match r with
  | .ex _ _ _ => .no
  | r => r
/-! ### expressions -/
abbrev Phi := Nat → List Sl → Ds → Rs Sl
structure Gx where
  phi : Phi
  glob : Str → Option D
  fuel : Nat
  sub : Str → Str → Bool
/-- a comprehension's items -/
def compL (f : D → Ds → Rs (Option D)) : List D → Ds → Rs (List D)
  | [], k => .ok [] k
  | x :: xs, k => (f x k).bind fun o k => (compL f xs k).bind fun r k => .ok (match o with | some y => y :: r | none => r) k
def rngL (lo : Int) (n : Nat) : List D := (List.range n).map fun i => .int (lo + (i : Nat))
def small62 (i : Int) : Bool := decide (i.natAbs < 2 ^ 62)
def rngD : List D → Option (List D)
  | [.int j] => if small62 j then some (rngL 0 j.toNat) else none
  | [.int i, .int j] => if small62 i && small62 j then some (rngL i (j - i).toNat) else none
  | [.int i, .int j, .int c] => if small62 i && small62 j && decide (c = -1) then some ((List.range (i - j).toNat).map fun n => .int (i - (n : Nat))) else none
  | _ => none
def rngcD (t : Bool) (xs : List D) : Option D := (rngD xs).bind fun ys => if decide (ys.length ≤ 16777216) && decide (xs.length ≤ 2) then some (if t then .tuple ys else .list ys) else none
def enumD (xs : List D) : List D := xs.zipIdx.map fun p => .tuple [.int (p.2 : Nat), p.1]
def zipD (xs ys : List D) : List D := (xs.zip ys).map fun p => .tuple [p.1, p.2]
def data (r : Rs Sl) : Rs D := r.bind fun s k => opt (dat s) k
def lend (e : IE) (t : Tau) : Option D := match e with
  | .var i => (match varT t i with
    | some (.own xs) => some (.list xs)
    | _ => none)
  | _ => none
/-- a value that is data (a list of one's own is lent) -/
def dl (t : Tau) (e : IE) (k : Ds) (r : Rs Sl) : Rs D := match lend e t with
  | some x => .ok x k
  | none => data r
/-- what a class's making gives -/
def mkR (c : Str) (r : Rs Sl) : Rs Sl := match r with
  | .ok (.obj c' fs) k => if c' = c then .ok (.obj c fs) k else .no
  | .ex c x k => .ex c x k
  | _ => .no
mutual
def ev (G : Gx) (t : Tau) : IE → Ds → Rs Sl
  | .con x, k => .ok (.d x) k
  | .var i, k => match varT t i with
    | some (.own _) => .no
    | some s => .ok s k
    | none => .no
  | .glob x, k => opt ((G.glob x).map .d) k
  | .bop op a b, k => (dl t a k (ev G t a k)).bind fun x k => (dl t b k (ev G t b k)).bind fun y k => opt ((bopD op x y).map .d) k
  | .neg a, k => (dl t a k (ev G t a k)).bind fun x k => opt ((negD x).map .d) k
  | .not_ a, k => (dl t a k (ev G t a k)).bind fun x k => opt ((truD x).map fun b => .d (.bool (!b))) k
  | .and_ a b, k => (dl t a k (ev G t a k)).bind fun x k => match truD x with
    | some true => ev G t b k
    | some false => .ok (.d (.bool false)) k
    | none => .no
  | .or_ a b, k => (dl t a k (ev G t a k)).bind fun x k => match truD x with
    | some false => ev G t b k
    | some true => .ok (.d (.bool true)) k
    | none => .no
  | .cmp op a b, k => (dl t a k (ev G t a k)).bind fun x k => (dl t b k (ev G t b k)).bind fun y k => opt ((cmpD op x y).map fun b => .d (.bool b)) k
  | .chain o p a b c, k => (dl t a k (ev G t a k)).bind fun x k => (dl t b k (ev G t b k)).bind fun y k => match cmpD o x y with
    | some true => (dl t c k (ev G t c k)).bind fun z k => opt ((cmpD p y z).map fun b => .d (.bool b)) k
    | some false => .ok (.d (.bool false)) k
    | none => .no
  | .ite c a b, k => (dl t c k (ev G t c k)).bind fun x k => match truD x with
    | some true => ev G t a k
    | some false => ev G t b k
    | none => .no
  | .tup es, k => (evx G t es k).bind fun xs k => if lenOk xs.length then .ok (.d (.tuple xs)) k else .no
  | .lst es, k => (evx G t es k).bind fun xs k => if lenOk xs.length then .ok (.d (.list xs)) k else .no
  | .idx a i, k => (dl t a k (ev G t a k)).bind fun x k => (dl t i k (ev G t i k)).bind fun y k => opt ((idxD x y).map .d) k
  | .sl a lo hi, k => (dl t a k (ev G t a k)).bind fun x k => (evo G t lo k).bind fun l k => (evo G t hi k).bind fun h k => opt ((slD x l h).map .d) k
  | .rev a, k => (dl t a k (ev G t a k)).bind fun x k => opt ((revD x).map .d) k
  | .revl a, k => (dl t a k (ev G t a k)).bind fun x k => match x with
    | .list xs => .ok (.d (.list xs.reverse)) k
    | _ => .no
  | .call f es, k => (evs G t es k).bind fun vs k => G.phi f vs k
  | .callk f es p, k => (evs G t es k).bind fun vs k => if vs.length = p.length then G.phi f (p.map fun i => vs.getD i .deck) k else .no
  | .callv i es, k => match varT t i with
    | some (.clo j env) => (evs G t es k).bind fun vs k => G.phi j (.clo j env :: vs) k
    | _ => .no
  | .blt b es, k => (evds G t es k).bind fun xs k => opt ((bltD b xs).map .d) k
  | .isi y a, k => (dl t a k (ev G t a k)).bind fun x k => .ok (.d (.bool (isiD y x))) k
  | .attr a f, k => (ev G t a k).bind fun s k => match s with
    | .obj _ fs => opt ((fs.lookup f).map .d) k
    | _ => .no
  | .comp e g it cs ws, k => if noOwn t ws then (evi G t it k).bind fun xs k =>
      (noEx (compL (fun x k => match bindG g x (wipeT t ws) with
        | some t' => (evc G t' cs k).bind fun b k => if b then (data (ev G t' e k)).bind fun y k => .ok (some y) k else .ok none k
        | none => .no) xs k)).bind fun ys k => if lenOk ys.length then .ok (.d (.list ys)) k else .no else .no
  | .lam j, k => .ok (.clo j t) k
  | .dkGet i f, k => match varT t i, k with
    | some .deck, some q => if f = q.key then .no else if f = "draws" then .ok (.d (.int q.draws)) k else if f = "mixed" then .ok (.d (.int q.mixed)) k else .no
    | _, _ => .no
  | .dkNe i f, k => match varT t i, k with
    | some .deck, some q => if f = q.key then .ok (.d (.bool (!q.left.isEmpty))) k else .no
    | _, _ => .no
  | .dget i e d, k => match varT t i with
    | some (.dic ps) => (data (ev G t e k)).bind fun x k => (data (ev G t d k)).bind fun y k => opt ((dicGet ps x y).map .d) k
    | _ => .no
  | .dgetL ps e d, k => (data (ev G t e k)).bind fun x k => (data (ev G t d k)).bind fun y k => opt ((dicGet ps x y).map .d) k
  | .fld c a f, k => (ev G t a k).bind fun s k => match s with
    | .obj c' fs => if c' = c then opt ((fs.lookup f).map .d) k else .no
    | _ => .no
  | .make c f es, k => (evs G t es k).bind fun ss k => mkR c (G.phi f (.slf :: ss) k)
  | .cmth c m f a es, k => (ev G t a k).bind fun s k => match s with
    | .obj c' fs => if c' = c then (if (fs.lookup m).isNone then (evs G t es k).bind fun ss k => G.phi f (.obj c fs :: ss) k else .no) else .no
    | _ => .no
  | .xat i f, k => match varT t i with
    | some (.exn c x) => if G.sub f c then .ok (.d x) k else .no
    | _ => .no
  | .isx i cs, k => match varT t i with
    | some (.exn c _) => if cs.all fun d => G.sub d d then .ok (.d (.bool (cs.any (G.sub c)))) k else .no
    | _ => .no
  | .lamc f j, k => (data (noEx (G.phi f [.clo j t] k))).bind fun x k => .ok (.d x) k
  | .rngc b es, k => (evds G t es k).bind fun xs k => opt ((rngcD b xs).map .d) k
  | .dct ks es, k => (evx G t es k).bind fun xs k => opt ((dctD ks xs).map .d) k
  | .meth m a es, k => (dl t a k (ev G t a k)).bind fun x k => match x with
    | .str u => (evds G t es k).bind fun xs k => opt ((mthD m u xs).map .d) k
    | _ => .no
def evs (G : Gx) (t : Tau) : List IE → Ds → Rs (List Sl)
  | [], k => .ok [] k
  | e :: es, k => (ev G t e k).bind fun s k => (evs G t es k).bind fun r k => .ok (s :: r) k
def evds (G : Gx) (t : Tau) : List IE → Ds → Rs (List D)
  | [], k => .ok [] k
  | e :: es, k => (dl t e k (ev G t e k)).bind fun s k => (evds G t es k).bind fun r k => .ok (s :: r) k
def evx (G : Gx) (t : Tau) : List IE → Ds → Rs (List D)
  | [], k => .ok [] k
  | e :: es, k => (data (ev G t e k)).bind fun s k => (evx G t es k).bind fun r k => .ok (s :: r) k
def evo (G : Gx) (t : Tau) : Option IE → Ds → Rs (Option Int)
  | none, k => .ok none k
  | some e, k => (dl t e k (ev G t e k)).bind fun x k => match x with
    | .int i => .ok (some i) k
    | _ => .no
def evc (G : Gx) (t : Tau) : List IE → Ds → Rs Bool
  | [], k => .ok true k
  | c :: cs, k => (dl t c k (ev G t c k)).bind fun x k => match truD x with
    | some true => evc G t cs k
    | some false => .ok false k
    | none => .no
def evi (G : Gx) (t : Tau) : IT → Ds → Rs (List D)
  | .seq e, k => (dl t e k (ev G t e k)).bind fun x k => opt (itemsD x) k
  | .rng es, k => (evds G t es k).bind fun xs k => opt (rngD xs) k
  | .enum e, k => (dl t e k (ev G t e k)).bind fun x k => opt ((itemsD x).map enumD) k
  | .zip a b, k => (dl t a k (ev G t a k)).bind fun x k => (dl t b k (ev G t b k)).bind fun y k => opt ((itemsD x).bind fun xs => (itemsD y).map fun ys => zipD xs ys) k
end
abbrev evd (G : Gx) (t : Tau) (e : IE) (k : Ds) : Rs D := dl t e k (ev G t e k)
/-! ### statements -/
inductive Fl where
  | nx | bk | ct
  | rt (s : Sl)
inductive Xs where
  | ok (f : Fl) (t : Tau) (k : Ds)
  | ex (c : Str) (x : D) (t : Tau) (k : Ds)
  | no
def Xs.bind (r : Xs) (f : Tau → Ds → Xs) : Xs := match r with
  | .ok .nx t k => f t k
  | r => r
@[simp] theorem yS (t : Tau) (k : Ds) (f : Tau → Ds → Xs) : (Xs.ok .nx t k).bind f = f t k := rfl
@[simp] theorem Xs.bind_bk (t : Tau) (k : Ds) (f : Tau → Ds → Xs) : (Xs.ok .bk t k).bind f = .ok .bk t k := rfl
@[simp] theorem Xs.bind_ct (t : Tau) (k : Ds) (f : Tau → Ds → Xs) : (Xs.ok .ct t k).bind f = .ok .ct t k := rfl
@[simp] theorem yT (s : Sl) (t : Tau) (k : Ds) (f : Tau → Ds → Xs) : (Xs.ok (.rt s) t k).bind f = .ok (.rt s) t k := rfl
@[simp] theorem Xs.bind_ex (c : Str) (x : D) (t : Tau) (k : Ds) (f : Tau → Ds → Xs) : (Xs.ex c x t k).bind f = .ex c x t k := rfl
@[simp] theorem Xs.bind_no (f : Tau → Ds → Xs) : Xs.no.bind f = .no := rfl
def Rs.thn {α : Type} (r : Rs α) (t : Tau) (f : α → Ds → Xs) : Xs := match r with
  | .ok a k => f a k
  | .ex c x k => .ex c x t k
  | .no => .no
@[simp] theorem yR {α : Type} (a : α) (k : Ds) (t : Tau) (f : α → Ds → Xs) : (Rs.ok a k).thn t f = f a k := rfl
@[simp] theorem Rs.thn_ex {α : Type} (c : Str) (x : D) (k : Ds) (t : Tau) (f : α → Ds → Xs) : (Rs.ex c x k : Rs α).thn t f = .ex c x t k := rfl
@[simp] theorem Rs.thn_no {α : Type} (t : Tau) (f : α → Ds → Xs) : (Rs.no : Rs α).thn t f = .no := rfl
/-- the list of a new list -/
def ownS (s : Sl) : Option Sl := match s with
  | .d (.list xs) => some (.own xs)
  | _ => none
def evI (G : Gx) (t : Tau) (o : Bool) (e : IE) (k : Ds) : Rs Sl := match o with
  | true => (ev G t e k).bind fun s k => opt (ownS s) k
  | false => ev G t e k
def evIs (G : Gx) (t : Tau) : List (Nat × Bool) → List IE → Ds → Rs (List Sl)
  | [], [], k => .ok [] k
  | (_, o) :: is, e :: es, k => (evI G t o e k).bind fun s k => (evIs G t is es k).bind fun r k => .ok (s :: r) k
  | _, _, _ => .no
def sets (t : Tau) : List (Nat × Bool) → List Sl → Tau
  | (i, _) :: is, s :: ss => sets (t.set i (some s)) is ss
  | _, _ => t
def forL (f : D → Tau → Ds → Xs) : List D → Tau → Ds → Xs
  | [], t, k => .ok .nx t k
  | x :: xs, t, k => match f x t k with
    | .ok .nx t k => forL f xs t k
    | .ok .ct t k => forL f xs t k
    | .ok .bk t k => .ok .nx t k
    | r => r
def whileN (c : Tau → Ds → Rs Bool) (b : Tau → Ds → Xs) : Nat → Tau → Ds → Xs
  | 0, _, _ => .no
  | n + 1, t, k => (c t k).thn t fun z k => match z with
    | true => (match b t k with
      | .ok .nx t k => whileN c b n t k
      | .ok .ct t k => whileN c b n t k
      | .ok .bk t k => .ok .nx t k
      | r => r)
    | false => .ok .nx t k
def tst (r : Rs D) : Rs Bool := r.bind fun x k => opt (truD x) k
/-- a list of one's own that is walked as it stands -/
def isLent (t : Tau) (e : IE) : Bool := (lend e t).isSome
def lentI (t : Tau) : IT → Bool
  | .seq e => isLent t e
  | .rng _ => false
  | .enum e => isLent t e
  | .zip a b => isLent t a || isLent t b
def augD : Operator → Int → D → Option Int
  | .Add, x, .int y => some (x + y)
  | .Sub, x, .int y => some (x - y)
  | _, _, _ => none
def putD (xs : List D) (j : Int) (y : D) : Option (List D) := (L2.ixN xs.length j).map fun n => xs.set n y
/-- targets of any form, the last one a new list -/
def bindSs (i : Nat) : List Tg → List Sl → Tau → Option Tau
  | [], [.own xs], t => some (t.set i (some (.own xs)))
  | g :: gs, .d x :: ss, t => (bindG g x t).bind fun t => bindSs i gs ss t
  | _, _, _ => none
/-- the names of a nameless function, with its arguments -/
def lamT (t : Tau) : List Nat → Tau → Tau
  | i :: is, o :: r => lamT (t.set i o) is r
  | _, _ => t
/-- no exception is held -/
def xS : Sl → Bool
  | .exn _ _ => true
  | _ => false
def noX (t : Tau) : Bool := t.all fun o => match o with
  | some s => !xS s
  | none => true
def noXf : Fl → Bool
  | .rt s => !xS s
  | _ => true
mutual
def exec (G : Gx) : IS → Tau → Ds → Xs
  | .asg i e, t, k => (ev G t e k).thn t fun s k => .ok .nx (t.set i (some s)) k
  | .own i e, t, k => (evI G t true e k).thn t fun s k => .ok .nx (t.set i (some s)) k
  | .asgT g e, t, k => (data (ev G t e k)).thn t fun x k => match bindG g x t with
    | some t => .ok .nx t k
    | none => .no
  | .par is es, t, k => (evIs G t is es k).thn t fun ss k => .ok .nx (sets t is ss) k
  | .app i e, t, k => match varT t i with
    | some (.own xs) => (data (ev G t e k)).thn t fun y k => if lenOk (xs.length + 1) then .ok .nx (t.set i (some (.own (xs ++ [y])))) k else .no
    | _ => .no
  | .ext i e, t, k => match varT t i with
    | some (.own xs) => (data (ev G t e k)).thn t fun y k => match y with
      | .list ys => if lenOk (xs.length + ys.length) then .ok .nx (t.set i (some (.own (xs ++ ys)))) k else .no
      | _ => .no
    | _ => .no
  | .put i j e, t, k => match varT t i with
    | some (.own xs) => (data (ev G t e k)).thn t fun y k => (dl t j k (ev G t j k)).thn t fun z k => match z with
      | .int j => (match putD xs j y with
        | some ys => .ok .nx (t.set i (some (.own ys))) k
        | none => .no)
      | _ => .no
    | _ => .no
  | .aug i op e, t, k => match varT t i with
    | some (.d (.int x)) => (dl t e k (ev G t e k)).thn t fun y k => match augD op x y with
      | some z => .ok .nx (t.set i (some (.d (.int z)))) k
      | none => .no
    | _ => .no
  | .never, _, _ => .no
  | .ex e, t, k => (ev G t e k).thn t fun _ k => .ok .nx t k
  | .ret e, t, k => (ev G t e k).thn t fun s k => .ok (.rt s) t k
  | .retn, t, k => .ok (.rt (.d .none)) t k
  | .pass, t, k => .ok .nx t k
  | .brk, t, k => .ok .bk t k
  | .cont, t, k => .ok .ct t k
  | .ite c a b, t, k => (tst (dl t c k (ev G t c k))).thn t fun z k => match z with
    | true => execs G a t k
    | false => execs G b t k
  | .for_ g it b, t, k => if lentI t it then .no else (evi G t it k).thn t fun xs k => forL (fun x t k => match bindG g x t with
    | some t => execs G b t k
    | none => .no) xs t k
  | .while_ c b, t, k => whileN (fun t k => tst (dl t c k (ev G t c k))) (fun t k => execs G b t k) G.fuel t k
  | .raise c e, t, k => (data (ev G t e k)).thn t fun x k => .ex c x t k
  | .try_ b hs, t, k => match execs G b t k with
    | .ex c x t k => if G.sub c c then handle G hs c x t k else .no
    | r => r
  | .frz i, t, k => match varT t i with
    | some (.own xs) => .ok .nx (t.set i (some (.d (.list xs)))) k
    | some (.d x) => .ok .nx t k
    | _ => .no
  | .dkSet i f e, t, k => match varT t i with
    | some .deck => (dl t e k (ev G t e k)).thn t fun y k => match k, y with
      | some q, .int y => if f = q.key then .no else if f = "draws" then .ok .nx t (some { q with draws := y }) else .no
      | _, _ => .no
    | _ => .no
  | .dkPop j i f, t, k => match varT t i, k with
    | some .deck, some q => if f = q.key then (match q.left.getLast? with
      | some y => .ok .nx (t.set j (some (.d (.int y)))) (some { q with left := q.left.dropLast })
      | none => .no) else .no
    | _, _ => .no
  | .dkApp i f e, t, k => match varT t i, k with
    | some .deck, some q => if f = q.key then (dl t e k (ev G t e k)).thn t fun y k => match k, y with
      | some q, .int y => if f = q.key then (if q.left.length < 1000 then .ok .nx t (some { q with left := q.left ++ [y] }) else .no) else .no
      | _, _ => .no
      else .no
    | _, _ => .no
  | .mkobj c ns es, t, k => (evds G t es k).thn t fun xs k => .ok (.rt (.obj c (ns.zip xs))) t k
  | .parG gs i es, t, k => (evIs G t (gs.map (fun _ => (0, false)) ++ [(i, true)]) es k).thn t fun ss k => match bindSs i gs ss t with
    | some t => .ok .nx t k
    | none => .no
  | .lamb is e, t, k => match t with
    | some (.clo _ env) :: r => (ev G (lamT env is r) e k).thn t fun s k => .ok (.rt s) t k
    | _ => .no
  | .dicB i ps, t, k => if i < t.length then .ok .nx (t.set i (some (.dic ps))) k else .no
  | .dkRet f s m d, t, k => (evI G t true s k).thn t fun s k => (dl t m k (ev G t m k)).thn t fun m k => (dl t d k (ev G t d k)).thn t fun d k => match s, m, d, k with
    | .own xs, .int m, .int d, none => if f = "mixed" ∨ f = "draws" then .no else (match intsD xs with
      | some ns => if ns.length ≤ 1000 then .ok (.rt .deck) t (some ⟨f, ns, m, d⟩) else .no
      | none => .no)
    | _, _, _, _ => .no
def execs (G : Gx) : List IS → Tau → Ds → Xs
  | [], t, k => .ok .nx t k
  | s :: ss, t, k => (exec G s t k).bind fun t k => execs G ss t k
def handle (G : Gx) : List IH → Str → D → Tau → Ds → Xs
  | [], c, x, t, k => .ex c x t k
  | .h cs n b :: hs, c, x, t, k => if cs.any (G.sub c) then (match n with
      | none => (match execs G b t k with
        | .ok f t k => if noX t && noXf f then .ok f t k else .no
        | _ => .no)
      | some i => (match execs G b (t.set i (some (.exn c x))) k with
        | .ok f t k => if noX (t.set i none) && noXf f then .ok f (t.set i none) k else .no
        | _ => .no)) else handle G hs c x t k
end
/-! ### defs -/
structure Df where
  ar : Nat
  nm : Nat
  body : List IS
def fin (r : Xs) : Rs Sl := match r with
  | .ok .nx _ k => .ok (.d .none) k
  | .ok (.rt s) _ k => .ok s k
  | .ex c x _ k => .ex c x k
  | _ => .no
theorem zA {t : Tau} {k : Ds} : fin (.ok .nx t k) = .ok (.d .none) k := rfl
theorem zB {s : Sl} {t : Tau} {k : Ds} : fin (.ok (.rt s) t k) = .ok s k := rfl
theorem zC {c : Str} {x : D} {t : Tau} {k : Ds} : fin (.ex c x t k) = .ex c x k := rfl
def run (G : Gx) (d : Df) (ss : List Sl) (k : Ds) : Rs Sl := if ss.length = d.ar then fin (execs G d.body (ss.map some ++ List.replicate (d.nm - d.ar) none) k) else .no
def phiN (defs : Nat → Option Df) (gl : Str → Option D) (fuel : Nat) (sub : Str → Str → Bool) : Nat → Phi
  | 0, _, _, _ => .no
  | n + 1, f, ss, k => match defs f with
    | some d => run ⟨phiN defs gl fuel sub n, gl, fuel, sub⟩ d ss k
    | none => .no
/-- a law's defs at all depths and fuels, its constants and classes -/
structure Wd where
  ph : Nat → Nat → Phi
  gl : Str → Option D
  sub : Str → Str → Bool
abbrev Wd.G (W : Wd) (fuel n : Nat) : Gx := ⟨W.ph fuel n, W.gl, fuel, W.sub⟩
/-- the own exceptions, which is below which -/
def subOf (ps : List (Str × Str)) : Str → Str → Bool := fun c d => ps.contains (c, d)
class Sub (W : Wd) (ps : outParam (List (Str × Str))) : Prop where
  eq : W.sub = subOf ps
end Q

namespace Q
open PySem PySem.Spec PyProof.Rows L2

/-! ### data in the heap -/
def kD : Key → D
  | .inl i => .int i
  | .inr x => .str x
def KL (K : PySem.W.Frag) (a : Addr) (xs : List V) : Prop :=
  ∃ (o : Obj) (its : Array Value) (n : Nat), K.lookup a = some o ∧ o.cls = .type "list" ∧ o.dict = none ∧ o.data = .seq its n ∧ its.size ≤ sizeLine ∧ Vals xs its.toList
def KT (K : PySem.W.Frag) (a : Addr) (xs : List V) : Prop :=
  ∃ (o : Obj) (its : Array Value) (n : Nat), K.lookup a = some o ∧ o.cls = .type "tuple" ∧ o.data = .seq its n ∧ its.size ≤ sizeLine ∧ Vals xs its.toList
def NdL (K : PySem.W.Frag) (H : Hp) (Ex : Addr → Prop) (a : Addr) (xs : List V) : Prop := (Rd H a (.lst xs) ∧ ¬ Ex a) ∨ KL K a xs
def NdT (K : PySem.W.Frag) (H : Hp) (Ex : Addr → Prop) (a : Addr) (xs : List V) : Prop := (Rd H a (.tup xs) ∧ ¬ Ex a) ∨ KT K a xs
mutual
inductive Rp (K : PySem.W.Frag) (H : Hp) (Ex : Addr → Prop) : V → D → Prop
  | non : Rp K H Ex .non .none
  | bl (b : Bool) : Rp K H Ex (.bl b) (.bool b)
  | int (i : Int) : Rp K H Ex (.int i) (.int i)
  | str (x : Str) : Rp K H Ex (.str x) (.str x)
  | lst {a : Addr} {xs : List V} {ds : List D} : NdL K H Ex a xs → RpA K H Ex xs ds → Rp K H Ex (.ref a) (.list ds)
  | tup {a : Addr} {xs : List V} {ds : List D} : NdT K H Ex a xs → RpA K H Ex xs ds → Rp K H Ex (.ref a) (.tuple ds)
  | dct {a : Addr} {kvs : List (Key × V)} {ds : List (D × D)} : H a = some (.dK kvs) → ¬ Ex a → RpK K H Ex kvs ds → Rp K H Ex (.ref a) (.dict ds)
inductive RpA (K : PySem.W.Frag) (H : Hp) (Ex : Addr → Prop) : List V → List D → Prop
  | nil : RpA K H Ex [] []
  | cons {v : V} {vs : List V} {d : D} {ds : List D} : Rp K H Ex v d → RpA K H Ex vs ds → RpA K H Ex (v :: vs) (d :: ds)
inductive RpK (K : PySem.W.Frag) (H : Hp) (Ex : Addr → Prop) : List (Key × V) → List (D × D) → Prop
  | nil : RpK K H Ex [] []
  | cons {c : Key} {v : V} {vs : List (Key × V)} {d : D} {ds : List (D × D)} : Rp K H Ex v d → RpK K H Ex vs ds → RpK K H Ex ((c, v) :: vs) ((kD c, d) :: ds)
end
section
variable {K : PySem.W.Frag} {H H' : Hp} {Ex Ex' : Addr → Prop}
theorem NdL.sq {a : Addr} {xs : List V} (h : NdL K H Ex a xs) : SqL K H a xs := by
  rcases h with ⟨h, _⟩ | h
  · exact .inl h
  · exact .inr h
theorem NdT.sq {a : Addr} {xs : List V} (h : NdT K H Ex a xs) : SqT K H a xs := by
  rcases h with ⟨h, _⟩ | h
  · exact .inl h
  · exact .inr h
theorem rd_some {a : Addr} {u : HO} (h : Rd H a u) : ∃ o, H a = some o := by
  rcases h with h | ⟨o, h⟩
  · exact ⟨_, h⟩
  · exact ⟨_, h⟩
/-- no table of code objects (these grow) -/
def nt : HO → Bool
  | .tbl _ => false
  | _ => true
/-- what was tracked, but for the left out, stands; what is newly left out was not tracked -/
structure Mv (H H' : Hp) (Ex Ex' : Addr → Prop) : Prop where
  keep : ∀ b o, H b = some o → nt o = true → ¬ Ex b → H' b = some o
  out : ∀ b, Ex' b → Ex b ∨ H b = none
  ne : ∀ b, H b ≠ none → H' b ≠ none
theorem ne_upd {H : Hp} {D b : Addr} {v : HO} (h : H b ≠ none) : upd H D v b ≠ none := by
  by_cases e : b = D
  · rw [e, upd_same]; exact fun z => by cases z
  · rw [upd_ne e]; exact h
/-- neither a table nor a code object -/
def plainO : HO → Bool
  | .tbl _ => false
  | .ext _ => false
  | _ => true
theorem tabs_of {T : List (Addr × Str)} {H H' : Hp} (t : LamX.Tabs T H) (k : ∀ b o, H b = some o → plainO o = false → H' b = some o) : LamX.Tabs T H' := fun p hp => by
  obtain ⟨ps, h1, h2, h3⟩ := t p hp
  refine ⟨ps, k _ _ h1 rfl, h2, fun pos cv hc => ?_⟩
  obtain ⟨c, e1, e2⟩ := h3 pos cv hc
  exact ⟨c, e1, k _ _ e2 rfl⟩
theorem tabs_upd {T : List (Addr × Str)} {H : Hp} {D : Addr} {v : HO} (t : LamX.Tabs T H) (h : ∀ u, H D = some u → plainO u = true) : LamX.Tabs T (upd H D v) := tabs_of t fun b o q z => by
  have n : b ≠ D := fun e => by
    rw [e] at q
    rw [h o q] at z
    cases z
  rw [upd_ne n]; exact q
/-- less is left out -/
theorem Mv.less {H : Hp} {Ex Ex' : Addr → Prop} (i : ∀ b, Ex' b → Ex b) : Mv H H Ex Ex' := ⟨fun _ _ q _ _ => q, fun b z => .inl (i b z), fun _ q => q⟩
theorem Mv.rd (m : Mv H H' Ex Ex') {a : Addr} {u : HO} (h : Rd H a u) (hu : nt u = true) (n : ¬ Ex a) : Rd H' a u ∧ ¬ Ex' a := by
  obtain ⟨o, ho⟩ := rd_some h
  refine ⟨?_, fun z => ?_⟩
  · rcases h with h | ⟨o, h⟩
    · exact .inl (m.keep _ _ h hu n)
    · exact .inr ⟨o, m.keep _ _ h rfl n⟩
  · rcases m.out a z with z | z
    · exact n z
    · rw [ho] at z; cases z
theorem NdL.mv (m : Mv H H' Ex Ex') {a : Addr} {xs : List V} (h : NdL K H Ex a xs) : NdL K H' Ex' a xs := by
  rcases h with ⟨h, n⟩ | h
  · exact .inl (m.rd h rfl n)
  · exact .inr h
theorem NdT.mv (m : Mv H H' Ex Ex') {a : Addr} {xs : List V} (h : NdT K H Ex a xs) : NdT K H' Ex' a xs := by
  rcases h with ⟨h, n⟩ | h
  · exact .inl (m.rd h rfl n)
  · exact .inr h
mutual
theorem Rp.mv (m : Mv H H' Ex Ex') : ∀ {v : V} {d : D}, Rp K H Ex v d → Rp K H' Ex' v d
  | _, _, .non => .non
  | _, _, .bl b => .bl b
  | _, _, .int i => .int i
  | _, _, .str x => .str x
  | _, _, .lst h r => .lst (h.mv m) (RpA.mv m r)
  | _, _, .tup h r => .tup (h.mv m) (RpA.mv m r)
  | _, _, .dct h n r => .dct (m.keep _ _ h rfl n) (m.rd (.inl h) rfl n).2 (RpK.mv m r)
theorem RpA.mv (m : Mv H H' Ex Ex') : ∀ {v : List V} {d : List D}, RpA K H Ex v d → RpA K H' Ex' v d
  | _, _, .nil => .nil
  | _, _, .cons h r => .cons (Rp.mv m h) (RpA.mv m r)
theorem RpK.mv (m : Mv H H' Ex Ex') : ∀ {v : List (Key × V)} {d : List (D × D)}, RpK K H Ex v d → RpK K H' Ex' v d
  | _, _, .nil => .nil
  | _, _, .cons h r => .cons (Rp.mv m h) (RpK.mv m r)
end
theorem RpA.len : ∀ {v : List V} {d : List D}, RpA K H Ex v d → v.length = d.length
  | _, _, .nil => rfl
  | _, _, .cons _ r => by simp only [List.length_cons, r.len]
theorem RpA.append : ∀ {v v' : List V} {d d' : List D}, RpA K H Ex v d → RpA K H Ex v' d' → RpA K H Ex (v ++ v') (d ++ d')
  | _, _, _, _, .nil, s => s
  | _, _, _, _, .cons h r, s => .cons h (r.append s)
theorem RpA.get : ∀ {v : List V} {d : List D} {i : Nat} {x : V}, RpA K H Ex v d → v[i]? = some x → ∃ y, d[i]? = some y ∧ Rp K H Ex x y
  | _, _, _, _, .nil, e => by simp at e
  | _, _, 0, _, .cons h _, e => by simp at e; subst e; exact ⟨_, rfl, h⟩
  | _, _, i + 1, x, .cons _ r, e => by
    obtain ⟨y, h1, h2⟩ := RpA.get (i := i) (x := x) r (by simpa using e)
    exact ⟨y, by simpa using h1, h2⟩
theorem RpA.get' : ∀ {v : List V} {d : List D} {i : Nat} {y : D}, RpA K H Ex v d → d[i]? = some y → ∃ x, v[i]? = some x ∧ Rp K H Ex x y
  | _, _, _, _, .nil, e => by simp at e
  | _, _, 0, _, .cons h _, e => by simp at e; subst e; exact ⟨_, rfl, h⟩
  | _, _, i + 1, x, .cons _ r, e => by
    obtain ⟨y, h1, h2⟩ := RpA.get' (i := i) (y := x) r (by simpa using e)
    exact ⟨y, by simpa using h1, h2⟩
theorem RpA.take : ∀ {v : List V} {d : List D} (n : Nat), RpA K H Ex v d → RpA K H Ex (v.take n) (d.take n)
  | _, _, 0, _ => .nil
  | _, _, _ + 1, .nil => .nil
  | _, _, n + 1, .cons h r => .cons h (r.take n)
theorem RpA.drop : ∀ {v : List V} {d : List D} (n : Nat), RpA K H Ex v d → RpA K H Ex (v.drop n) (d.drop n)
  | _, _, 0, r => r
  | _, _, _ + 1, .nil => .nil
  | _, _, n + 1, .cons _ r => r.drop n
theorem RpA.reverse {v : List V} {d : List D} (r : RpA K H Ex v d) : RpA K H Ex v.reverse d.reverse := by
  induction v generalizing d with
  | nil => cases r; exact .nil
  | cons a v ih => cases r with | cons h r => rw [List.reverse_cons, List.reverse_cons]; exact (ih r).append (.cons h .nil)
theorem RpA.set {x : V} {y : D} (h : Rp K H Ex x y) : ∀ {v : List V} {d : List D} (i : Nat), RpA K H Ex v d → RpA K H Ex (v.set i x) (d.set i y)
  | _, _, _, .nil => .nil
  | _, _, 0, .cons _ t => .cons h t
  | _, _, i + 1, .cons q t => .cons q (RpA.set h i t)
theorem RpA.rep {v : List V} {d : List D} (r : RpA K H Ex v d) : ∀ n : Nat, RpA K H Ex (List.replicate n v).flatten (List.replicate n d).flatten
  | 0 => .nil
  | n + 1 => by rw [List.replicate_succ, List.replicate_succ, List.flatten_cons, List.flatten_cons]; exact r.append (r.rep n)
theorem RpA.ints : ∀ {v : List V} {d : List D} {ns : List Int}, RpA K H Ex v d → intsD d = some ns → v = ns.map V.int
  | _, _, _, .nil, e => by cases e; rfl
  | _, _, ns, .cons h r, e => by
    cases h with
    | int i =>
      rename_i ds
      have e' : (intsD ds).map (i :: ·) = some ns := e
      cases q : intsD ds with
      | none => rw [q] at e'; cases e'
      | some ms => rw [q] at e'; cases e'; rw [r.ints q]; rfl
    | _ => cases e
theorem RpA.bools : ∀ {v : List V} {d : List D} {ns : List Bool}, RpA K H Ex v d → boolsD d = some ns → v = ns.map V.bl
  | _, _, _, .nil, e => by cases e; rfl
  | _, _, ns, .cons h r, e => by
    cases h with
    | bl i =>
      rename_i ds
      have e' : (boolsD ds).map (i :: ·) = some ns := e
      cases q : boolsD ds with
      | none => rw [q] at e'; cases e'
      | some ms => rw [q] at e'; cases e'; rw [r.bools q]; rfl
    | _ => cases e
theorem rpA_ints : ∀ ns : List Int, RpA K H Ex (ns.map V.int) (ns.map PyData.int)
  | [] => .nil
  | n :: ns => .cons (.int n) (rpA_ints ns)
end

/-- a value that is read: data, or a list that is lent -/
def Sh (K : PySem.W.Frag) (H : Hp) (Ex : Addr → Prop) (v : V) (d : D) : Prop :=
  Rp K H Ex v d ∨ ∃ a xs ds, v = .ref a ∧ d = .list ds ∧ H a = some (.lst xs) ∧ RpA K H Ex xs ds

/-! ### the deck -/
abbrev Da := Option (Addr × Addr)
def isDk (d : Da) (b : Addr) : Prop := match d with
  | some (a, l) => b = a ∨ b = l
  | none => False
def DkR (H : Hp) : Da → Ds → Prop
  | none, none => True
  | some (a, l), some q => a ≠ l ∧ H a = some (.dK [(.inr q.key, .ref l), (.inr "mixed", .int q.mixed), (.inr "draws", .int q.draws)]) ∧ H l = some (.lst (q.left.map V.int)) ∧ q.left.length ≤ 1000
  | _, _ => False
/-- from one state to a later one: only the deck may have changed, a deck may have been made -/
structure Ext (d d' : Da) (H H' : Hp) : Prop where
  keep : ∀ b o, H b = some o → nt o = true → ¬ isDk d b → H' b = some o
  dk : d' = d ∨ (d = none ∧ ∀ b, isDk d' b → H b = none)
  ne : ∀ b, H b ≠ none → H' b ≠ none
theorem some_ne {H : Hp} {b : Addr} {o : HO} (h : H b = some o) : H b ≠ none := fun z => by rw [h] at z; cases z
theorem ne_keep {H H' : Hp} (hk : ∀ b o, H b = some o → H' b = some o) (b : Addr) (h : H b ≠ none) : H' b ≠ none := by
  cases q : H b with
  | none => exact absurd q h
  | some o => exact some_ne (hk b o q)
theorem Ext.refl (d : Da) (H : Hp) : Ext d d H H := ⟨fun _ _ h _ _ => h, .inl rfl, fun _ h => h⟩
/-- all of it stands -/
theorem Ext.all {d : Da} {H H' : Hp} (hk : ∀ b o, H b = some o → H' b = some o) : Ext d d H H' := ⟨fun b o h _ _ => hk b o h, .inl rfl, ne_keep hk⟩
theorem Ext.new {d d' : Da} {H H' : Hp} (e : Ext d d' H H') {b : Addr} {o : HO} (h : H b = some o) (n : ¬ isDk d b) : ¬ isDk d' b := fun z => by
  rcases e.dk with q | ⟨_, q⟩
  · rw [q] at z; exact n z
  · rw [q b z] at h; cases h
theorem Ext.trans {d d' d'' : Da} {H H' H'' : Hp} (e : Ext d d' H H') (f : Ext d' d'' H' H'') : Ext d d'' H H'' := by
  refine ⟨fun b o h hn n => f.keep b o (e.keep b o h hn n) hn (e.new h n), ?_, fun b h => f.ne b (e.ne b h)⟩
  rcases f.dk with q | ⟨q1, q2⟩
  · rcases e.dk with r | r
    · exact .inl (q.trans r)
    · exact .inr (by rw [q]; exact r)
  · rcases e.dk with r | ⟨r1, r2⟩
    · refine .inr ⟨by rw [← r]; exact q1, fun b hb => ?_⟩
      cases hh : H b with
      | none => rfl
      | some o => exact absurd (q2 b hb) (e.ne b (some_ne hh))
    · refine .inr ⟨r1, fun b hb => ?_⟩
      cases hh : H b with
      | none => rfl
      | some o => exact absurd (q2 b hb) (e.ne b (some_ne hh))

/-! ### the state of a body -/
/-- what is fixed: the heap at the entry, what is left out there, where the lists of one's own stand -/
structure Gh where
  H0 : Hp
  Ex0 : Addr → Prop
  ad : Nat → Addr
  dk : Da
abbrev Gh.at (g : Gh) (d : Da) : Gh := { g with dk := d }
def Gh.Ex (g : Gh) (t : Tau) (b : Addr) : Prop := g.Ex0 b ∨ isDk g.dk b ∨ ∃ (i : Nat) (xs : List D), t[i]? = some (some (.own xs)) ∧ g.ad i = b
inductive FsR (K : PySem.W.Frag) (H : Hp) (Ex : Addr → Prop) : List (Str × V) → List (Str × D) → Prop
  | nil : FsR K H Ex [] []
  | cons {f : Str} {v : V} {x : D} {fs : List (Str × V)} {gs : List (Str × D)} : Rp K H Ex v x → FsR K H Ex fs gs → FsR K H Ex ((f, v) :: fs) ((f, x) :: gs)
theorem FsR.mv {K : PySem.W.Frag} {H H' : Hp} {Ex Ex' : Addr → Prop} (m : Mv H H' Ex Ex') : ∀ {fs gs}, FsR K H Ex fs gs → FsR K H' Ex' fs gs
  | _, _, .nil => .nil
  | _, _, .cons h r => .cons (h.mv m) (r.mv m)
/-- where the classes stand, the program, the world -/
structure Cls where
  at_ : Str → Addr
  P : Program
  w : World
  /-- the tables of code objects, each with the name of its lambdas -/
  T : List (Addr × Str) := []
  /-- the exception that a suite holds: its address, its dict, its class, its field -/
  ex : Option (Addr × Addr × Str × Str) := none
  /-- the lambda that a def got: its number, its names, its function, its code object and that one's name -/
  lam : Option (Nat × Tau × Addr × Addr × Str) := none
  /-- what the heap was at that def's entry, the deck, what was left out -/
  h0 : Option (Hp × Da × (Addr → Prop)) := none
instance : CoeFun Cls fun _ => Str → Addr := ⟨Cls.at_⟩
/-- a dict with nested keys: its entries -/
def dnO (P : Program) (w : World) (d : Addr) (xs : List (NestedKey × Addr × V)) : HO := .ext fun h => ∃ ys : List (NestedKey × Addr × Value), Paired (fun x y => x.1 = y.1 ∧ x.2.1 = y.2.1 ∧ L2.RelV x.2.2 y.2.2) xs ys ∧ ∃ o es ep, h.get? d = some o ∧ o.ExactDict ∧ o.data = .dict es ep ∧ es.toList = ys.map (entryOfKey (nestedKind P w)) ∧ (ys.map (·.1)).Nodup
/-- the tuple at a is the key q -/
def KyD (K : PySem.W.Frag) (H : Hp) (a : Addr) (q : NestedKey) : Prop := ∃ (Ex : Addr → Prop) (d : D), keyD d = some q ∧ q.depth ≤ 8 ∧ Rp K H Ex (.ref a) d
/-- its entries as data -/
inductive DnR (K : PySem.W.Frag) (H : Hp) (Ex : Addr → Prop) : List (NestedKey × Addr × V) → List (NestedKey × D) → Prop
  | nil : DnR K H Ex [] []
  | cons {q : NestedKey} {a : Addr} {v : V} {x : D} {xs : List (NestedKey × Addr × V)} {ps : List (NestedKey × D)} : (∃ kd, keyD kd = some q ∧ q.depth ≤ 8 ∧ Rp K H Ex (.ref a) kd) → Rp K H Ex v x → DnR K H Ex xs ps → DnR K H Ex ((q, a, v) :: xs) ((q, x) :: ps)
theorem DnR.mv {K : PySem.W.Frag} {H H' : Hp} {Ex Ex' : Addr → Prop} (m : Mv H H' Ex Ex') : ∀ {xs ps}, DnR K H Ex xs ps → DnR K H' Ex' xs ps
  | _, _, .nil => .nil
  | _, _, .cons ⟨kd, h1, h2, h3⟩ r t => .cons ⟨kd, h1, h2, h3.mv m⟩ (r.mv m) (t.mv m)
/-- how a name's value lies: cl gives a class's address -/
def RSl (K : PySem.W.Frag) (cl : Cls) (H : Hp) (Ex : Addr → Prop) (d : Da) (v : V) : Sl → Prop
  | .d x => Rp K H Ex v x
  | .own _ => False
  | .deck => ∃ a l, d = some (a, l) ∧ v = .ref a
  | .obj c fs => ∃ a dx fv, v = .ref a ∧ H a = some (.ins (cl c) dx fv) ∧ ¬ Ex a ∧ FsR K H Ex fv fs
  | .clo j e => ∃ f c q, cl.lam = some (j, e, f, c, q) ∧ v = .ref f
  | .exn c x => ∃ a d f y, cl.ex = some (a, d, c, f) ∧ v = .ref a ∧ H d = some (.xd [(f, y)]) ∧ ¬ Ex d ∧ Rp K H Ex y x
  | .slf => True
  | .dic ps => ∃ a xs, v = .ref a ∧ H a = some (dnO cl.P cl.w a xs) ∧ ¬ Ex a ∧ (a == sysModules) = false ∧ xs.length ≤ 1000 ∧ DnR K H Ex xs ps
theorem RSl.mv {K : PySem.W.Frag} {cl : Cls} {H H' : Hp} {Ex Ex' : Addr → Prop} {d d' : Da} {v : V} (m : Mv H H' Ex Ex') (hd : ∀ p, d = some p → d' = some p) : ∀ {s : Sl}, RSl K cl H Ex d v s → RSl K cl H' Ex' d' v s
  | .d _, h => Rp.mv m h
  | .own _, h => h
  | .deck, ⟨a, l, h1, h2⟩ => ⟨a, l, hd _ h1, h2⟩
  | .obj _ _, ⟨a, dx, fv, h1, h2, h3, h4⟩ => ⟨a, dx, fv, h1, m.keep _ _ h2 rfl h3, (m.rd (.inl h2) rfl h3).2, h4.mv m⟩
  | .clo _ _, h => h
  | .exn _ _, ⟨a, d, f, y, h1, h2, h3, h4, h5⟩ => ⟨a, d, f, y, h1, h2, m.keep _ _ h3 rfl h4, (m.rd (.inl h3) rfl h4).2, h5.mv m⟩
  | .slf, h => h
  | .dic _, ⟨a, xs, h1, h2, h3, h4, h5, h6⟩ => ⟨a, xs, h1, m.keep _ _ h2 rfl h3, (m.rd (.inl h2) rfl h3).2, h4, h5, h6.mv m⟩
/-- the dict of an exception, in nobody's keeping -/
structure XdR (H : Hp) (Ex : Addr → Prop) (d : Addr) (f : Str) (v : V) : Prop where
  h : H d = some (.xd [(f, v)])
  n : ¬ Ex d
theorem XdR.same {H : Hp} {Ex Ex' : Addr → Prop} {d : Addr} {f : Str} {v : V} (x : XdR H Ex d f v) (i : ∀ b, Ex' b → Ex b) : XdR H Ex' d f v := ⟨x.h, fun z => x.n (i d z)⟩
structure Sim (K : PySem.W.Frag) (cl : Cls) (g : Gh) (H : Hp) (σ : L2.St) (t : Tau) (k : Ds) : Prop where
  fr : ∀ b o, g.H0 b = some o → nt o = true → ¬ isDk g.dk b → H b = some o
  kept : ∀ b, g.H0 b ≠ none → H b ≠ none
  tab : LamX.Tabs cl.T H
  was : ∀ h d E, cl.h0 = some (h, d, E) → g.H0 = h ∧ (∀ b, g.Ex0 b → E b ∨ h b = none) ∧ (g.dk = d ∨ (d = none ∧ ∀ b, isDk g.dk b → h b = none))
  dkr : DkR H g.dk k
  ex : ∀ b, g.Ex0 b → H b ≠ none
  exd : ∀ b, g.Ex0 b → ¬ isDk g.dk b
  len : σ.length = t.length
  sl : ∀ (i : Nat) (s : Sl), t[i]? = some (some s) → (∀ xs, s ≠ .own xs) → ∃ v, σ[i]? = some (some v) ∧ RSl K cl H (g.Ex t) g.dk v s
  own : ∀ (i : Nat) (xs : List D), t[i]? = some (some (.own xs)) → σ[i]? = some (some (V.ref (g.ad i))) ∧ g.H0 (g.ad i) = none ∧ ¬ isDk g.dk (g.ad i) ∧ ∃ vs, H (g.ad i) = some (.lst vs) ∧ RpA K H (g.Ex t) vs xs
  inj : ∀ (i j : Nat) (xs ys : List D), i ≠ j → t[i]? = some (some (.own xs)) → t[j]? = some (some (.own ys)) → g.ad i ≠ g.ad j
section
variable {K : PySem.W.Frag} {cl : Cls} {g : Gh} {H H' : Hp} {σ : L2.St} {t : Tau} {k k' : Ds} {d' : Da}
theorem DkR.some_of {d : Da} (h : DkR H d k) {b : Addr} (z : isDk d b) : H b ≠ none := by
  cases d with
  | none => exact z.elim
  | some p =>
    obtain ⟨a, l⟩ := p
    cases k with
    | none => exact h.elim
    | some q =>
      obtain ⟨_, h1, h2, _⟩ := h
      rcases z with rfl | rfl
      · rw [h1]; exact fun z => by cases z
      · rw [h2]; exact fun z => by cases z
theorem DkR.plain {d : Da} (h : DkR H d k) {b : Addr} (z : isDk d b) {o : HO} (q : H b = some o) : plainO o = true := by
  cases d with
  | none => exact z.elim
  | some p =>
    obtain ⟨a, l⟩ := p
    cases k with
    | none => exact h.elim
    | some dq =>
      obtain ⟨_, h1, h2, _⟩ := h
      rcases z with rfl | rfl
      · rw [h1] at q; cases q; rfl
      · rw [h2] at q; cases q; rfl
theorem Sim.exs (S : Sim K cl g H σ t k) {b : Addr} (z : g.Ex t b) : H b ≠ none := by
  rcases z with z | z | ⟨i, xs, h1, h2⟩
  · exact S.ex b z
  · exact S.dkr.some_of z
  · obtain ⟨_, _, _, vs, h, _⟩ := S.own i xs h1
    rw [← h2, h]; exact fun z => by cases z
/-- behind a step the data stands -/
theorem Sim.mv (S : Sim K cl g H σ t k) (e : Ext g.dk d' H H') : Mv H H' (g.Ex t) ((g.at d').Ex t) := by
  refine ⟨fun b o h hn n => e.keep b o h hn fun z => n (.inr (.inl z)), fun b z => ?_, e.ne⟩
  rcases z with z | z | z
  · exact .inl (.inl z)
  · rcases e.dk with q | ⟨_, q⟩
    · exact .inl (.inr (.inl (by rw [← q]; exact z)))
    · exact .inr (q b z)
  · exact .inl (.inr (.inr z))
theorem Ext.da {d d' : Da} (e : Ext d d' H H') : ∀ p, d = some p → d' = some p := fun p h => by
  rcases e.dk with q | ⟨q, _⟩
  · rw [q]; exact h
  · rw [q] at h; cases h
theorem Sim.step (S : Sim K cl g H σ t k) (e : Ext g.dk d' H H') (hd : DkR H' d' k') (ht : LamX.Tabs cl.T H') : Sim K cl (g.at d') H' σ t k' := by
  have m := S.mv e
  refine ⟨fun b o h hn n => e.keep b o (S.fr b o h hn fun z => ?_) hn fun z => ?_, fun b h => e.ne b (S.kept b h), ht, fun h d E q => ?_, hd, fun b h q => ?_, fun b h z => ?_, S.len, fun i s h n => ?_, fun i xs h => ?_, S.inj⟩
  · rcases e.dk with q | ⟨q, _⟩
    · exact n (by show isDk d' b; rw [q]; exact z)
    · rw [q] at z; exact z
  · rcases e.dk with q | ⟨q, _⟩
    · exact n (by show isDk d' b; rw [q]; exact z)
    · rw [q] at z; exact z
  · obtain ⟨h1, h2, h3⟩ := S.was h d E q
    refine ⟨h1, h2, ?_⟩
    rcases e.dk with r | ⟨r1, r2⟩
    · rcases h3 with h3 | ⟨h3, h4⟩
      · exact .inl (r.trans h3)
      · exact .inr ⟨h3, fun b z => h4 b (by rw [← r]; exact z)⟩
    · rcases h3 with h3 | ⟨h3, h4⟩
      · refine .inr ⟨h3.symm.trans r1, fun b z => ?_⟩
        cases hh : h b with
        | none => rfl
        | some o => exact absurd (r2 b z) (S.kept b (by rw [h1]; exact some_ne hh))
      · refine .inr ⟨h3, fun b z => ?_⟩
        cases hh : h b with
        | none => rfl
        | some o => exact absurd (r2 b z) (S.kept b (by rw [h1]; exact some_ne hh))
  · exact e.ne b (S.ex b h) q
  · rcases e.dk with q | ⟨q1, q2⟩
    · exact S.exd b h (by rw [← q]; exact z)
    · exact S.exs (.inl h) (q2 b z)
  · obtain ⟨v, h1, h2⟩ := S.sl i s h n
    exact ⟨v, h1, h2.mv m e.da⟩
  · obtain ⟨h1, h2, h3, vs, h4, h5⟩ := S.own i xs h
    exact ⟨h1, h2, e.new h4 h3, vs, e.keep _ _ h4 rfl h3, h5.mv m⟩
theorem Sh.mv {Ex Ex' : Addr → Prop} {v : V} {x : D} (m : Mv H H' Ex Ex') (hl : ∀ a xs, H a = some (.lst xs) → H' a = some (.lst xs) ∨ Rp K H Ex v x) (h : Sh K H Ex v x) : Sh K H' Ex' v x := by
  rcases h with h | ⟨a, xs, ds, h1, h2, h3, h4⟩
  · exact .inl (h.mv m)
  · rcases hl a xs h3 with q | q
    · exact .inr ⟨a, xs, ds, h1, h2, q, h4.mv m⟩
    · exact .inl (q.mv m)
end
end Q

namespace Q
open PySem PySem.Spec PyProof.Rows L2
section
variable {K : PySem.W.Frag} {H H' : Hp} {Ex : Addr → Prop} {v : V}
theorem Rp.sh {x : D} (h : Rp K H Ex v x) : Sh K H Ex v x := .inl h
theorem sh_int {i : Int} (h : Sh K H Ex v (.int i)) : v = .int i := by
  rcases h with h | ⟨a, xs, ds, h1, h2, h3, h4⟩
  · cases h; rfl
  · cases h2
theorem sh_str {i : Str} (h : Sh K H Ex v (.str i)) : v = .str i := by
  rcases h with h | ⟨a, xs, ds, h1, h2, h3, h4⟩
  · cases h; rfl
  · cases h2
theorem sh_bool {i : Bool} (h : Sh K H Ex v (.bool i)) : v = .bl i := by
  rcases h with h | ⟨a, xs, ds, h1, h2, h3, h4⟩
  · cases h; rfl
  · cases h2
theorem sh_none (h : Sh K H Ex v .none) : v = .non := by
  rcases h with h | ⟨a, xs, ds, h1, h2, h3, h4⟩
  · cases h; rfl
  · cases h2
theorem sh_tup {ds : List D} (h : Sh K H Ex v (.tuple ds)) : ∃ a xs, v = .ref a ∧ SqT K H a xs ∧ RpA K H Ex xs ds ∧ Rp K H Ex v (.tuple ds) := by
  rcases h with h | ⟨a, xs, ds, h1, h2, h3, h4⟩
  · cases h with
    | tup n r => exact ⟨_, _, rfl, n.sq, r, .tup n r⟩
  · cases h2
theorem sh_lst {ds : List D} (h : Sh K H Ex v (.list ds)) : ∃ a xs, v = .ref a ∧ SqL K H a xs ∧ RpA K H Ex xs ds := by
  rcases h with h | ⟨a, xs, ds, h1, h2, h3, h4⟩
  · cases h with
    | lst n r => exact ⟨_, _, rfl, n.sq, r⟩
  · cases h2; exact ⟨a, xs, h1, .of h3, h4⟩
theorem rp_int {i : Int} (h : Rp K H Ex v (.int i)) : v = .int i := sh_int h.sh
theorem rp_bool {i : Bool} (h : Rp K H Ex v (.bool i)) : v = .bl i := sh_bool h.sh
/-- what is left out is tracked -/
def In (H : Hp) (Ex : Addr → Prop) : Prop := ∀ b, Ex b → H b ≠ none
/-- a value comes out that is z; what was tracked stands -/
def Out (K : PySem.W.Frag) (H : Hp) (Ex : Addr → Prop) (z : D) (Q : VK) : Prop := ∀ v H', (∀ b o, H b = some o → H' b = some o) → Rp K H' Ex v z → Q v H'
variable {Q : VK}
theorem Out.here {z : D} (o : Out K H Ex z Q) (h : Rp K H Ex v z) : Q v H := o v H (fun _ _ h => h) h
theorem Out.int {i : Int} (o : Out K H Ex (.int i) Q) : Q (.int i) H := o.here (.int i)
theorem Out.bl {i : Bool} (o : Out K H Ex (.bool i) Q) : Q (.bl i) H := o.here (.bl i)
theorem Out.str {i : Str} (o : Out K H Ex (.str i) Q) : Q (.str i) H := o.here (.str i)
theorem upd_keep {p : Addr} {u : HO} (hp : H p = none) : ∀ b o, H b = some o → upd H p u b = some o := fun b o h => by rw [upd_ne (ne_of_none h hp)]; exact h
theorem mv_upd {p : Addr} {u : HO} (hp : H p = none) : Mv H (upd H p u) Ex Ex := ⟨fun b o h _ _ => upd_keep hp b o h, fun _ z => .inl z, ne_keep (upd_keep hp)⟩
theorem Out.tup {xs : List V} {ds : List D} (o : Out K H Ex (.tuple ds) Q) (i : In H Ex) (r : RpA K H Ex xs ds) : ∀ p, H p = none → Q (.ref p) (upd H p (.tup xs)) := fun p hp =>
  o _ _ (upd_keep hp) (.tup (.inl ⟨.of upd_same, fun z => i p z hp⟩) (r.mv (mv_upd hp)))
theorem Out.lst {xs : List V} {ds : List D} (o : Out K H Ex (.list ds) Q) (i : In H Ex) (r : RpA K H Ex xs ds) : ∀ p, H p = none → Q (.ref p) (upd H p (.lst xs)) := fun p hp =>
  o _ _ (upd_keep hp) (.lst (.inl ⟨.of upd_same, fun z => i p z hp⟩) (r.mv (mv_upd hp)))
end
def rB (K : PySem.W.Frag) (f : D → D → Option D) : R2 := fun x y H Q => ∃ Ex dx dy z, In H Ex ∧ Sh K H Ex x dx ∧ Sh K H Ex y dy ∧ f dx dy = some z ∧ Out K H Ex z Q
/-! ### tuple * 0, * 1 -/
section
theorem tuple_mul0 (l : Addr) (items : Array Value) (n : Nat) (dd : Option Addr) (sl : Array (Option Value)) (x : Int) (u : Tok) (c0 : (decide (x < -(2 ^ 63)) || decide (x ≥ 2 ^ 63)) = false) (c1 : (items.isEmpty || x == 1) = false) (c2 : (decide (x ≤ 0) || items.isEmpty) = true) :
    Meets (Builtin.«tuple.__mul__» ⟨[.ref l, .int x u], []⟩) (fun _ R s => s.heap.get? l = some { cls := .type "tuple", dict := dd, data := .seq items n, slots := sl } ∧
      R (.ok (.ret (Value.ref s.heap.objs.size))) { s with heap := s.heap.push { cls := Value.type "tuple", data := Data.seq #[] }, toks := s.toks }) :=
  .of_wp fun prog w A R s h => by
    obtain ⟨hp, g, d, tk, os⟩ := s
    obtain ⟨hl, h⟩ := h
    have f1 := AutoSeq1.idx_int
    wp_walk using wpAny_loadPart' hl
    repeat (first
      | (refine wpAny_ite_false (decide_eq_false (by rw [c0]; exact Bool.false_ne_true)) ?_; wp_walk using wpAny_loadPart' hl)
      | (refine wpAny_ite_false (decide_eq_false (by rw [c1]; exact Bool.false_ne_true)) ?_; wp_walk using wpAny_loadPart' hl)
      | (refine wpAny_ite_true (decide_eq_true c2) ?_; wp_walk using wpAny_loadPart' hl))
    exact ⟨_, rfl, h⟩

theorem tuple_mul1 (l : Addr) (items : Array Value) (n : Nat) (dd : Option Addr) (sl : Array (Option Value)) (x : Int) (u : Tok) (c0 : (decide (x < -(2 ^ 63)) || decide (x ≥ 2 ^ 63)) = false) (c1 : (items.isEmpty || x == 1) = true) :
    Meets (Builtin.«tuple.__mul__» ⟨[.ref l, .int x u], []⟩) (fun _ R s => s.heap.get? l = some { cls := .type "tuple", dict := dd, data := .seq items n, slots := sl } ∧ R (.ok (.ret (Value.ref l))) s) :=
  .of_wp fun prog w A R s h => by
    obtain ⟨hp, g, d, tk, os⟩ := s
    obtain ⟨hl, h⟩ := h
    have f1 := AutoSeq1.idx_int
    wp_walk using wpAny_loadPart' hl
    repeat (first
      | (refine wpAny_ite_false (decide_eq_false (by rw [c0]; exact Bool.false_ne_true)) ?_; wp_walk using wpAny_loadPart' hl)
      | (refine wpAny_ite_true (decide_eq_true c1) ?_; wp_walk using wpAny_loadPart' hl))
    exact ⟨_, rfl, h⟩
end
section
variable {X : Cx}
/-- t * k -/
theorem op_repA {pins : List (Addr × Obj)} {s : Shared} {σ : L2.St} {H : Hp} {l : Addr} {xs : List V} {k : Int} {t : Tok} {Q : VK} (I : Inv X pins σ H s) (hT : SqT X.K H l xs) (h1 : -1000000 < k) (h2 : k < 1000000) (hz : xs.length * k.toNat ≤ sizeLine)
    (q1 : xs = [] ∨ k = 1 → Q (.ref l) H) (q2 : ∀ p, H p = none → Q (.ref p) (upd H p (.tup (List.replicate k.toNat xs).flatten))) : wpAny (model X.prog X.w) X.A (binaryOp .Mult (.ref l) (.int k t)) (EP X pins σ Q) X.xe s := by
  obtain ⟨its, r, ⟨⟨cls, dd, data, sl⟩, ho, hc, n, hd⟩, hs⟩ := I.tuple hT
  simp only at hc hd
  subst hc hd
  have hle : its.length = xs.length := r.length.symm
  have hsz0 : its.toArray.size = xs.length := by rw [List.size_toArray, hle]
  have hsl := sizeLine_eq
  have c0 : (decide (k < -(2 ^ 63)) || decide (k ≥ 2 ^ 63)) = false := by
    rw [decide_eq_false (by omega), decide_eq_false (by omega)] <;> rfl
  refine wpAny_binaryOp_repeat_ref (T := "tuple") (U := "int") (by decide) ⟨_, ho, rfl⟩ (fun s' => typeIs_int s' k t) noFill_tuple_mul F.fills_int_mul F.slot_int_rmul repeat_tuple F.slot_int_index.lookup
    (call_meets F.slot_int_rmul (typeIs_int s k t) F.entry_int_rmul (F.args_int_rmul_2 _ _) (int_rmul_tuple k t l its.toArray n dd sl)
      ⟨ho, rfl, ⟨_, ho, rfl⟩, ?_⟩)
  by_cases hq : xs = [] ∨ k = 1
  · have c1 : (its.toArray.isEmpty || k == 1) = true := by
      rcases hq with e | e
      · have : its = [] := List.eq_nil_of_length_eq_zero (by rw [hle, e]; rfl)
        rw [this]; rfl
      · rw [e, Bool.or_eq_true]; exact .inr rfl
    exact call_meets F.slot_tuple_mul ⟨_, ho, rfl⟩ F.entry_tuple_mul (F.args_tuple_mul_2 _ _) (tuple_mul1 l its.toArray n dd sl k t c0 c1) ⟨ho, ⟨.ref l, H, I, rfl, q1 hq⟩⟩
  · have hn : its ≠ [] := fun e => hq (.inl (List.eq_nil_of_length_eq_zero (by rw [← hle, e]; rfl)))
    have hi : its.toArray.isEmpty = false := by
      cases its with
      | nil => exact absurd rfl hn
      | cons a b => rfl
    have c1 : (its.toArray.isEmpty || k == 1) = false := by
      rw [hi, Bool.false_or]
      exact beq_eq_false_iff_ne.mpr fun e => hq (.inr e)
    by_cases h0 : k ≤ 0
    · have c2 : (decide (k ≤ 0) || its.toArray.isEmpty) = true := by rw [decide_eq_true h0, Bool.true_or]
      refine call_meets F.slot_tuple_mul ⟨_, ho, rfl⟩ F.entry_tuple_mul (F.args_tuple_mul_2 _ _) (tuple_mul0 l its.toArray n dd sl k t c0 c1 c2) ⟨ho, ?_⟩
      have e0 : k.toNat = 0 := by omega
      have q := q2 _ (I.hok.fresh (Nat.le_refl _))
      rw [e0] at q
      exact ⟨.ref s.heap.objs.size, _, I.laid (t' := s.toks) (o := .tup []) (fun b ob q => Heap.get?_push_of_some _ q) (Nat.le_refl _) ⟨Nat.zero_le _, [], .nil, IsTup.new _ _⟩, rfl, q⟩
    · have hm : ((its.toArray.size : Nat) : Int) * k = ((xs.length * k.toNat : Nat) : Int) := by
        rw [hsz0, Int.natCast_mul, Int.toNat_of_nonneg (by omega)]
      have flen : (List.replicate k.toNat its).flatten.length ≤ sizeLine := by
        rw [PyProof.Rows.lm_len_rep_flat, hle, Nat.mul_comm]; exact hz
      have c2 : (decide (k ≤ 0) || its.toArray.isEmpty) = false := by
        rw [hi, Bool.or_false]
        exact decide_eq_false h0
      have c3 : ¬ ((its.toArray.size : Nat) : Int) * k > (2 ^ 63 - 1) / 8 := by rw [hm]; omega
      have c4 : Builtin.Tuple.tupleTooMany (((its.toArray.size : Nat) : Int) * k) = false := by
        unfold Builtin.Tuple.tupleTooMany
        exact decide_eq_false (by rw [hm]; omega)
      refine call_meets F.slot_tuple_mul ⟨_, ho, rfl⟩ F.entry_tuple_mul (F.args_tuple_mul_2 _ _) (tuple_mulW l its.toArray n dd sl k t c0 c1 c2 c3 c4 (by rw [size_rep, List.size_toArray]; exact flen)) ⟨ho, ?_⟩
      rw [size_rep]
      exact ⟨.ref s.heap.objs.size, _, I.laid (t' := s.toks) (o := .tup (List.replicate k.toNat xs).flatten) (fun b ob q => Heap.get?_push_of_some _ q) (Nat.le_refl _)
        ⟨by rw [PyProof.Rows.lm_len_rep_flat, Nat.mul_comm]; exact hz, _, r.rep k.toNat, IsTup.new _ _⟩, rfl, q2 _ (I.hok.fresh (Nat.le_refl _))⟩

theorem list_addW (l : Addr) (items : Array Value) (n : Nat) (sl : Array (Option Value)) (b : Addr) (items2 : Array Value) (n2 : Nat) (sl2 : Array (Option Value)) (hc0 : items.size + items2.size ≤ sizeLine) :
    Meets (Builtin.«list.__add__» ⟨[.ref l, .ref b], []⟩) (fun _ R s => s.heap.get? l = some { cls := .type "list", dict := none, data := .seq items n, slots := sl } ∧ s.heap.get? b = some { cls := .type "list", dict := none, data := .seq items2 n2, slots := sl2 } ∧ R (.ok (.ret (Value.ref s.heap.objs.size))) { s with heap := s.heap.push { cls := Value.type "list", data := Data.seq (items ++ items2) }, toks := s.toks }) :=
  .of_wp fun prog w A R s h => by obtain ⟨hp, g, d, tk, os⟩ := s; obtain ⟨hl, hb, h⟩ := h; have f1 := AutoSeq1.idx_int; have f2 := AutoSeq1.sub_tuple_tuple; have f3 := AutoSeq1.sub_list_list; have f4 := AutoSeq1.sub_tuple_list; have f5 := AutoSeq1.sub_list_tuple; wp_walk using wpAny_loadPart' hl, wpAny_loadPart' hb; exact ⟨_, rfl, h⟩
theorem int_rmul_list (a : Int) (t : Tok) (l : Addr) (items : Array Value) (n : Nat) (sl : Array (Option Value)) :
    Meets (Builtin.«int.__rmul__» ⟨[.int a t, .ref l], []⟩) (fun _ R s => s.heap.get? l = some { cls := .type "list", dict := none, data := .seq items n, slots := sl } ∧ R (.ok (.ret Value.notImplemented)) s) :=
  .of_wp fun prog w A R s h => by obtain ⟨hp, g, d, tk, os⟩ := s; obtain ⟨hl, h⟩ := h; wp_walk using wpAny_loadPart' hl; exact ⟨_, rfl, h⟩
theorem list_mulW (l : Addr) (items : Array Value) (n : Nat) (sl : Array (Option Value)) (x : Int) (u : Tok) (hc0 : ¬(!Builtin.List.listFitsIndex x) = true) (hc1 : ¬items.size * x.toNat > (2 ^ 63 - 1) / 8) (hc2 : ¬Builtin.List.listTooLong (items.size * x.toNat) = true) :
    Meets (Builtin.«list.__mul__» ⟨[.ref l, .int x u], []⟩) (fun _ R s => s.heap.get? l = some { cls := .type "list", dict := none, data := .seq items n, slots := sl } ∧ R (.ok (.ret (Value.ref s.heap.objs.size))) { s with heap := s.heap.push { cls := Value.type "list", data := Data.seq (List.foldl (fun x1 x2 => x1 ++ x2) #[] (List.replicate (if items.isEmpty = true then 0 else x.toNat) items)) }, toks := s.toks }) :=
  .of_wp fun prog w A R s h => by
    obtain ⟨hp, g, d, tk, os⟩ := s; obtain ⟨hl, h⟩ := h
    have hsz := AutoListH.joined_fits hc2
    wp_walk using wpAny_loadPart' hl; refine wpAny_ite_false (decide_eq_false (Nat.not_lt.mpr hsz)) ?_; wp_walk; exact ⟨_, rfl, h⟩
theorem op_catL {pins : List (Addr × Obj)} {s : Shared} {σ : L2.St} {H : Hp} {l b : Addr} {xs ys : List V} {Q : VK} (I : Inv X pins σ H s) (hT : SqL X.K H l xs) (hU : SqL X.K H b ys) (hz : xs.length + ys.length ≤ sizeLine)
    (q : ∀ p, H p = none → Q (.ref p) (upd H p (.lst (xs ++ ys)))) : wpAny (model X.prog X.w) X.A (binaryOp .Add (.ref l) (.ref b)) (EP X pins σ Q) X.xe s := by
  obtain ⟨its, r, ⟨⟨c1, d1, t1, sl1⟩, n1, e1, hc1, hd1, hs1⟩, _⟩ := I.list hT
  obtain ⟨its2, r2, ⟨⟨c2, d2, t2, sl2⟩, n2, e2, hc2, hd2, hs2⟩, _⟩ := I.list hU
  simp only at hc1 hd1 hs1 hc2 hd2 hs2
  subst hc1 hd1 hs1 hc2 hd2 hs2
  have l1 := r.length
  have l2 := r2.length
  refine concat_meets ⟨_, e1, rfl⟩ ⟨_, e2, rfl⟩ PySem.noFill_list_add PySem.seq_list_add F.slot_list_add F.entry_list_add (F.args_list_add_2 _ _) (list_addW l its.toArray n1 sl1 b its2.toArray n2 sl2 (by rw [List.size_toArray, List.size_toArray]; omega)) ⟨e1, e2, ?_⟩
  have ea : its.toArray ++ its2.toArray = (its ++ its2).toArray := by simp
  rw [ea]
  exact ⟨.ref _, _, I.laid (t' := s.toks) (o := .lst (xs ++ ys)) (fun b ob q => Heap.get?_push_of_some _ q) (Nat.le_refl _) ⟨by rw [List.length_append]; omega, _, 0, r.append r2, Heap.get?_push_size _ rfl⟩, rfl, q _ (I.hok.fresh (Nat.le_refl _))⟩
theorem op_repL {pins : List (Addr × Obj)} {s : Shared} {σ : L2.St} {H : Hp} {l : Addr} {xs : List V} {k : Int} {t : Tok} {Q : VK} (I : Inv X pins σ H s) (hT : SqL X.K H l xs) (h1 : -1000000 < k) (h2 : k < 1000000) (hz : xs.length * k.toNat ≤ sizeLine)
    (q : ∀ p, H p = none → Q (.ref p) (upd H p (.lst (List.replicate k.toNat xs).flatten))) : wpAny (model X.prog X.w) X.A (binaryOp .Mult (.ref l) (.int k t)) (EP X pins σ Q) X.xe s := by
  obtain ⟨its, r, ⟨⟨c1, d1, t1, sl1⟩, n1, e, hc1, hd1, hs1⟩, _⟩ := I.list hT
  simp only at hc1 hd1 hs1
  subst hc1 hd1 hs1
  have hl := r.length
  have hlen : its.toArray.size * k.toNat ≤ sizeLine := by rw [List.size_toArray, ← hl]; exact hz
  have hcap : ¬ its.toArray.size * k.toNat > (2 ^ 63 - 1) / 8 := by
    have : (sizeLine : Nat) ≤ (2 ^ 63 - 1) / 8 := by decide
    omega
  have hfit : ¬ (!Builtin.List.listFitsIndex k) = true := by
    rw [fitsIndex_both (by omega) (by omega)]
    exact Bool.false_ne_true
  have hlong : ¬ Builtin.List.listTooLong (its.toArray.size * k.toNat) = true := by
    rw [notLongL hlen]
    exact Bool.false_ne_true
  have hnew : List.foldl (fun x1 x2 => x1 ++ x2) #[] (List.replicate (if its.toArray.isEmpty = true then 0 else k.toNat) its.toArray) = (List.replicate k.toNat its).flatten.toArray := by
    have f0 : ∀ m : Nat, List.foldl (fun x1 x2 => x1 ++ x2) #[] (List.replicate m its.toArray) = (List.replicate m its).flatten.toArray := fun m => by
      have := foldl_rep its m []
      rw [List.nil_append] at this
      exact this
    rw [f0]
    cases its with
    | nil => simp
    | cons a r' => rw [if_neg (by simp)]
  refine wpAny_binaryOp_repeat_ref (T := "list") (U := "int") (by decide) ⟨_, e, rfl⟩ (fun s' => typeIs_int s' k t) noFill_list_mul F.fills_int_mul F.slot_int_rmul repeat_list F.slot_int_index.lookup
    (call_meets F.slot_int_rmul (typeIs_int s k t) F.entry_int_rmul (F.args_int_rmul_2 _ _) (int_rmul_list k t l its.toArray n1 sl1)
      ⟨e, rfl, ⟨_, e, rfl⟩, call_meets F.slot_list_mul ⟨_, e, rfl⟩ F.entry_list_mul (F.args_list_mul_2 _ _) (list_mulW l its.toArray n1 sl1 k t hfit hcap hlong) ⟨e, ?_⟩⟩)
  rw [hnew]
  exact ⟨.ref _, _, I.laid (t' := s.toks) (o := .lst (List.replicate k.toNat xs).flatten) (fun b ob q => Heap.get?_push_of_some _ q) (Nat.le_refl _) ⟨by rw [PyProof.Rows.lm_len_rep_flat, Nat.mul_comm]; exact hz, _, 0, r.rep k.toNat, Heap.get?_push_size _ rfl⟩, rfl, q _ (I.hok.fresh (Nat.le_refl _))⟩
end
end Q

namespace Q
open PySem PySem.Spec PyProof.Rows L2
section
variable {X : Cx}
theorem if_some {c : Bool} {a b : D} (h : (if c = true then some a else none) = some b) : c = true ∧ a = b := by
  cases c with
  | true => exact ⟨rfl, Option.some.inj (by simpa using h)⟩
  | false => simp at h
theorem ifp_some {c : Prop} [Decidable c] {a b : D} (h : (if c then some a else none) = some b) : c ∧ a = b := by
  by_cases hc : c
  · rw [if_pos hc] at h; exact ⟨hc, Option.some.inj h⟩
  · rw [if_neg hc] at h; cases h
theorem rI_of {op : Operator} {f : Value → Value → Sem Value} {C : Int → Int → Prop} {g : Int → Int → Int} (o : OpR X f (rI C fun i j => .int (g i j))) {a b : Int} {pins s σ H x y v u Q Ex z} (I : Inv X pins σ H s) (rx : RelV x v) (ry : RelV y u)
    (hx : Sh X.K H Ex x (.int a)) (hy : Sh X.K H Ex y (.int b)) (hc : C a b) (hz : PyData.int (g a b) = z) (q : Out X.K H Ex z Q) : wpAny (model X.prog X.w) X.A (f v u) (EP X pins σ Q) X.xe s := by
  obtain rfl := sh_int hx
  obtain rfl := sh_int hy
  subst hz
  exact o pins s σ H _ _ v u Q I rx ry ⟨a, b, rfl, rfl, hc, q.int⟩
theorem rI0_of {op : Operator} {f : Value → Value → Sem Value} {g : Int → Int → Int} (o : OpR X f (rI0 fun i j => .int (g i j))) {a b : Int} {pins s σ H x y v u Q Ex z} (I : Inv X pins σ H s) (rx : RelV x v) (ry : RelV y u)
    (hx : Sh X.K H Ex x (.int a)) (hy : Sh X.K H Ex y (.int b)) (hz : some (PyData.int (g a b)) = some z) (q : Out X.K H Ex z Q) : wpAny (model X.prog X.w) X.A (f v u) (EP X pins σ Q) X.xe s := by
  obtain rfl := sh_int hx
  obtain rfl := sh_int hy
  cases hz
  exact o pins s σ H _ _ v u Q I rx ry ⟨a, b, rfl, rfl, q.int⟩
theorem nil_iffA {K : PySem.W.Frag} {H : Hp} {Ex : Addr → Prop} {xs : List V} {ds : List D} (r : RpA K H Ex xs ds) : xs = [] ↔ ds = [] := by
  cases r with
  | nil => simp
  | cons _ _ => simp
theorem op_bop (op : Operator) : OpR X (binaryOp op) (rB X.K (bopD op)) := by
  intro pins s σ H x y v u Q I rx ry h
  obtain ⟨Ex, dx, dy, z, hin, hx, hy, hf, q⟩ := h
  cases op with
  | Add =>
    cases dx with
    | int a => cases dy with
      | int b => exact rI0_of (op := .Add) op_add I rx ry hx hy hf q
      | _ => cases hf
    | str a => cases dy with
      | str b =>
        obtain ⟨hl, rfl⟩ := if_some (show (if lenOk (a.length + b.length) = true then some (PyData.str (a ++ b)) else none) = some z from hf)
        obtain rfl := sh_str hx
        obtain rfl := sh_str hy
        obtain ⟨t, rfl⟩ := rx
        obtain ⟨t', rfl⟩ := ry
        exact PyProof.Rows.add_str (fun t' tk => ⟨.str (a ++ b), H, I.tok _, ⟨_, rfl⟩, q.str⟩) (of_decide_eq_true hl)
      | _ => cases hf
    | tuple a => cases dy with
      | tuple b =>
        obtain ⟨hl, rfl⟩ := if_some (show (if lenOk (a.length + b.length) = true then some (PyData.tuple (a ++ b)) else none) = some z from hf)
        obtain ⟨p, xs, rfl, h1, h2, h3⟩ := sh_tup hx
        obtain ⟨p', ys, rfl, h1', h2', h3'⟩ := sh_tup hy
        refine op_catA pins s σ H _ _ v u Q I rx ry ⟨p, p', xs, ys, rfl, rfl, h1, h1', ?_, fun e => ?_, fun _ e => ?_, fun _ _ => q.tup hin (h2.append h2')⟩
        · rw [h2.len, h2'.len]; exact of_decide_eq_true hl
        · have e' := (nil_iffA h2).mp e
          refine q.here ?_
          rw [e', List.nil_append]; exact h3'
        · have e' := (nil_iffA h2').mp e
          refine q.here ?_
          rw [e', List.append_nil]; exact h3
      | _ => cases hf
    | list a => cases dy with
      | list b =>
        obtain ⟨hl, rfl⟩ := if_some (show (if lenOk (a.length + b.length) = true then some (PyData.list (a ++ b)) else none) = some z from hf)
        obtain ⟨p, xs, rfl, h1, h2⟩ := sh_lst hx
        obtain ⟨p', ys, rfl, h1', h2'⟩ := sh_lst hy
        cases rx
        cases ry
        exact op_catL I h1 h1' (by rw [h2.len, h2'.len]; exact of_decide_eq_true hl) (q.lst hin (h2.append h2'))
      | _ => cases hf
    | _ => cases dy <;> cases hf
  | Sub => cases dx with
    | int a => cases dy with
      | int b => exact rI0_of (op := .Sub) op_sub I rx ry hx hy hf q
      | _ => cases hf
    | _ => cases dy <;> cases hf
  | Mult => cases dx with
    | int a => cases dy with
      | int b =>
        obtain ⟨hl, e⟩ := if_some (show (if mulOk a b = true then some (PyData.int (a * b)) else none) = some z from hf)
        unfold mulOk smallI at hl
        rw [Bool.or_eq_true, Bool.or_eq_true, decide_eq_true_iff, decide_eq_true_iff, decide_eq_true_iff] at hl
        rcases hl with hl | hl | hl
        · exact rI_of (op := .Mult) op_mul I rx ry hx hy (.inl ⟨by omega, by omega⟩) e q
        · exact rI_of (op := .Mult) op_mul I rx ry hx hy (.inr ⟨by omega, by omega⟩) e q
        · exact rI_of (op := .Mult) op_mulW I rx ry hx hy (by unfold CMulW; exact hl) e q
      | _ => cases hf
    | tuple a => cases dy with
      | int b =>
        obtain ⟨hl, rfl⟩ := if_some (show (if (lenOk (a.length * b.toNat) && decide (b < 1000000) && decide (-1000000 < b)) = true then some (PyData.tuple (rep a b.toNat)) else none) = some z from hf)
        rw [Bool.and_eq_true, Bool.and_eq_true] at hl
        obtain ⟨⟨l1, l2⟩, l3⟩ := hl
        obtain ⟨p, xs, rfl, h1, h2, h3⟩ := sh_tup hx
        obtain rfl := sh_int hy
        cases rx
        obtain ⟨t, rfl⟩ := ry
        refine op_repA I h1 (of_decide_eq_true l3) (of_decide_eq_true l2) (by rw [h2.len]; exact of_decide_eq_true l1) (fun e => q.here ?_) (q.tup hin (h2.rep _))
        rcases e with e | e
        · have e' := (nil_iffA h2).mp e
          subst e'
          have : rep ([] : List D) b.toNat = [] := by simp [rep]
          rw [this]; exact h3
        · subst e
          have : rep a (1 : Int).toNat = a := by simp [rep]
          rw [this]; exact h3
      | _ => cases hf
    | list a => cases dy with
      | int b =>
        obtain ⟨hl, rfl⟩ := if_some (show (if (lenOk (a.length * b.toNat) && decide (b < 1000000) && decide (-1000000 < b)) = true then some (PyData.list (rep a b.toNat)) else none) = some z from hf)
        rw [Bool.and_eq_true, Bool.and_eq_true] at hl
        obtain ⟨⟨l1, l2⟩, l3⟩ := hl
        obtain ⟨p, xs, rfl, h1, h2⟩ := sh_lst hx
        obtain rfl := sh_int hy
        cases rx
        obtain ⟨t, rfl⟩ := ry
        exact op_repL I h1 (of_decide_eq_true l3) (of_decide_eq_true l2) (by rw [h2.len]; exact of_decide_eq_true l1) (q.lst hin (h2.rep _))
      | _ => cases hf
    | _ => cases dy <;> cases hf
  | FloorDiv => cases dx with
    | int a => cases dy with
      | int b =>
        obtain ⟨hl, e⟩ := if_some (show (if divOk b = true then some (PyData.int (a / b)) else none) = some z from hf)
        unfold divOk at hl
        rw [Bool.and_eq_true] at hl
        exact rI_of (op := .Mult) op_fdivW I rx ry hx hy ⟨of_decide_eq_true hl.1, of_decide_eq_true hl.2⟩ e q
      | _ => cases hf
    | _ => cases dy <;> cases hf
  | Mod => cases dx with
    | int a => cases dy with
      | int b =>
        obtain ⟨hl, e⟩ := ifp_some (show (if 0 < b then some (PyData.int (a % b)) else none) = some z from hf)
        exact rI_of (op := .Mult) op_mod I rx ry hx hy hl e q
      | _ => cases hf
    | _ => cases dy <;> cases hf
  | Pow => cases dx with
    | int a => cases dy with
      | int b =>
        obtain ⟨hl, e⟩ := if_some (show (if powOk a b = true then some (PyData.int (a ^ b.toNat)) else none) = some z from hf)
        unfold powOk at hl
        rw [Bool.and_eq_true, Bool.and_eq_true] at hl
        exact rI_of (op := .Mult) op_pow I rx ry hx hy ⟨of_decide_eq_true hl.1.1, of_decide_eq_true hl.1.2, of_decide_eq_true hl.2⟩ e q
      | _ => cases hf
    | _ => cases dy <;> cases hf
  | LShift => cases dx with
    | int a => cases dy with
      | int b =>
        obtain ⟨hl, e⟩ := if_some (show (if powOk a b = true then some (PyData.int (a * 2 ^ b.toNat)) else none) = some z from hf)
        unfold powOk at hl
        rw [Bool.and_eq_true, Bool.and_eq_true] at hl
        exact rI_of (op := .Mult) op_shl I rx ry hx hy ⟨of_decide_eq_true hl.1.1, of_decide_eq_true hl.1.2, of_decide_eq_true hl.2⟩ e q
      | _ => cases hf
    | _ => cases dy <;> cases hf
  | RShift => cases dx with
    | int a => cases dy with
      | int b =>
        obtain ⟨hl, e⟩ := ifp_some (show (if 0 ≤ b then some (PyData.int (a / 2 ^ b.toNat)) else none) = some z from hf)
        exact rI_of (op := .Mult) op_shr I rx ry hx hy hl e q
      | _ => cases hf
    | _ => cases dy <;> cases hf
  | BitAnd => cases dx with
    | int a => cases dy with
      | int b => exact rI0_of (op := .Sub) op_and I rx ry hx hy hf q
      | _ => cases hf
    | _ => cases dy <;> cases hf
  | BitOr => cases dx with
    | int a => cases dy with
      | int b => exact rI0_of (op := .Sub) op_or I rx ry hx hy hf q
      | _ => cases hf
    | _ => cases dy <;> cases hf
  | BitXor => cases dx with
    | int a => cases dy with
      | int b => exact rI0_of (op := .Sub) op_xor I rx ry hx hy hf q
      | _ => cases hf
    | _ => cases dy <;> cases hf
  | MatMult => cases dx <;> cases dy <;> cases hf
  | Div => cases dx <;> cases dy <;> cases hf
end
end Q

namespace Q
open PySem PySem.Spec PyProof.Rows L2
section
variable {X : Cx} {pins : List (Addr × Obj)} {σ : L2.St} {H : Hp} {s : Shared} {Ex : Addr → Prop}
/-- the class of sys.modules is no list -/
def SysM (K : PySem.W.Frag) : Prop := ∃ o, K.lookup sysModules = some o ∧ o.cls = .type "dict"
theorem sys_ne (I : Inv X pins σ H s) (hs : SysM X.K) {a : Addr} {o : Obj} (e : s.heap.get? a = some o) (c : o.cls = .type "list") : a ≠ sysModules := by
  rintro rfl
  obtain ⟨u, h1, h2⟩ := hs
  have h3 := I.kIn _ _ h1
  rw [e] at h3; cases h3
  rw [c] at h2
  exact absurd h2 (by decide)
theorem key_reads {h : Heap} {c : Key} {v : Value} (k : keyIs c v = true) : Reads h v (kD c) [] := by
  rcases keyIs_shape k with ⟨i, t, rfl, rfl⟩ | ⟨x, t, rfl, rfl⟩
  · exact .int i t
  · exact .str x t
theorem pairs_reads {P : Program} {w : World} {h : Heap} : ∀ {es : List DictEntry} {vs : List (Key × Value)} {kvs : List (Key × V)}, Pairs (mixKind P w) es vs → KV kvs vs → ∀ ds : List (D × D), ds.map (·.1) = kvs.map (fun p => kD p.1) →
    ReadsAll h (es.map (·.key)) (ds.map (·.1)) []
  | [], [], [], _, _, ds, e => by rw [e]; exact .nil
  | e :: es, (c, v) :: vs, p :: kvs, hp, hk, ds, e' => by
    cases ds with
    | nil => cases e'
    | cons d ds =>
      cases hk with
      | cons h1 h2 =>
        cases hp with
        | cons q1 q3 q2 =>
          have e1 : d.1 = kD p.1 := by simpa using (List.cons.inj e').1
          have e2 : ds.map (·.1) = kvs.map (fun p => kD p.1) := (List.cons.inj e').2
          have r := pairs_reads (h := h) q2 h2 ds e2
          have k : keyIs c e.key = true := q1
          have k1 : p.1 = c := h1.1
          show ReadsAll h (e.key :: es.map (·.key)) (d.1 :: ds.map (·.1)) []
          rw [e1, k1]
          exact .cons (as := []) (bs := []) (key_reads k) r
theorem RpK.keys {K : PySem.W.Frag} : ∀ {kvs : List (Key × V)} {ds : List (D × D)}, RpK K H Ex kvs ds → ds.map (·.1) = kvs.map (fun p => kD p.1)
  | _, _, .nil => rfl
  | _, _, .cons _ r => by simp only [List.map_cons, r.keys]
theorem pairs_vals {P : Program} {w : World} : ∀ {es : List DictEntry} {vs : List (Key × Value)} {kvs : List (Key × V)}, Pairs (mixKind P w) es vs → KV kvs vs → Vals (kvs.map (·.2)) (es.map (·.val))
  | [], [], [], _, _ => .nil
  | e :: es, (c, v) :: vs, p :: kvs, hp, hk => by
    cases hk with
    | cons h1 h2 =>
      cases hp with
      | cons q1 q3 q2 =>
        have e1 : e.val = v := q3
        show Vals (p.2 :: kvs.map (·.2)) (e.val :: es.map (·.val))
        rw [e1]
        exact .cons h1.2 (pairs_vals q2 h2)

mutual
/-- data as the library reads it; where dicts lie within, none is sys.modules -/
theorem Rp.reads (I : Inv X pins σ H s) : ∀ {d : D} {v : V} {u : Value}, Rp X.K H Ex v d → RelV v u → ∃ as, Reads s.heap u d as ∧ (SysM X.K → sysModules ∉ as)
  | .none, _, _, h, r => by
    cases h; cases r
    exact ⟨_, .none, fun _ => nofun⟩
  | .bool b, _, _, h, r => by
    cases h; cases r
    exact ⟨_, .bool b, fun _ => nofun⟩
  | .int i, _, _, h, r => by
    cases h
    obtain ⟨t, rfl⟩ := r
    exact ⟨_, .int i t, fun _ => nofun⟩
  | .str x, _, _, h, r => by
    cases h
    obtain ⟨t, rfl⟩ := r
    exact ⟨_, .str x t, fun _ => nofun⟩
  | .list ds, _, _, h, r => by
    cases h with
    | lst hn hr =>
      cases r
      obtain ⟨its, rv, ⟨o, n, ho, hc, _, hd⟩, _⟩ := I.list hn.sq
      obtain ⟨as, q, z⟩ := RpA.reads I hr rv
      exact ⟨_, .list ho hc hd q, fun hs hm => (List.mem_cons.mp hm).elim (fun e => sys_ne I hs ho hc e.symm) (z hs)⟩
  | .tuple ds, _, _, h, r => by
    cases h with
    | tup hn hr =>
      cases r
      obtain ⟨its, rv, ⟨o, ho, hc, n, hd⟩, _⟩ := I.tuple hn.sq
      obtain ⟨as, q, z⟩ := RpA.reads I hr rv
      exact ⟨_, .tuple ho hc hd q, z⟩
  | .dict ds, _, _, h, r => by
    cases h with
    | dct ha hx hr =>
      rename_i a kvs
      cases r
      obtain ⟨_, hy, vs, kv, o, es, ep, ho, hc, hd, _, hp, _⟩ := (show ObjOk X.prog X.w H s.heap a (.dK kvs) from I.hok a _ ha)
      obtain ⟨bs, q, z⟩ := RpK.reads I hr (pairs_vals hp kv)
      have k := pairs_reads (h := s.heap) hp kv ds hr.keys
      refine ⟨_, .dict ho hc.1 hd (as := []) (by simpa using k) (by simpa using q), fun hs hm => ?_⟩
      rcases List.mem_append.mp hm with hm | hm
      · have e : sysModules = a := by simpa using hm
        rw [← e] at hy
        exact absurd hy (by decide)
      · exact z hs hm
theorem RpA.reads (I : Inv X pins σ H s) : ∀ {ds : List D} {vs : List V} {us : List Value}, RpA X.K H Ex vs ds → Vals vs us → ∃ as, ReadsAll s.heap us ds as ∧ (SysM X.K → sysModules ∉ as)
  | [], _, _, h, r => by
    cases h; cases r
    exact ⟨_, .nil, fun _ => nofun⟩
  | d :: ds, _, _, h, r => by
    cases h with
    | cons h1 h2 =>
      cases r with
      | cons r1 r2 =>
        obtain ⟨as, q1, z1⟩ := Rp.reads I h1 r1
        obtain ⟨bs, q2, z2⟩ := RpA.reads I h2 r2
        exact ⟨_, .cons q1 q2, fun hs hm => (List.mem_append.mp hm).elim (z1 hs) (z2 hs)⟩
theorem RpK.reads (I : Inv X pins σ H s) : ∀ {ds : List (D × D)} {vs : List (Key × V)} {us : List Value}, RpK X.K H Ex vs ds → Vals (vs.map (·.2)) us → ∃ as, ReadsAll s.heap us (ds.map (·.2)) as ∧ (SysM X.K → sysModules ∉ as)
  | [], _, _, h, r => by
    cases h; cases r
    exact ⟨_, .nil, fun _ => nofun⟩
  | (kd, d) :: ds, _, _, h, r => by
    cases h with
    | cons h1 h2 =>
      cases r with
      | cons r1 r2 =>
        obtain ⟨as, q1, z1⟩ := Rp.reads I h1 r1
        obtain ⟨bs, q2, z2⟩ := RpK.reads I h2 r2
        exact ⟨_, .cons q1 q2, fun hs hm => (List.mem_append.mp hm).elim (z1 hs) (z2 hs)⟩
end
theorem Sh.reads (I : Inv X pins σ H s) {d : D} {v : V} {u : Value} (h : Sh X.K H Ex v d) (r : RelV v u) : ∃ as, Reads s.heap u d as ∧ (SysM X.K → sysModules ∉ as) := by
  rcases h with h | ⟨a, xs, ds, rfl, rfl, h1, h2⟩
  · exact h.reads I r
  · cases r
    obtain ⟨its, rv, ⟨o, n, ho, hc, _, hd⟩, _⟩ := I.list (SqL.of h1 : SqL X.K H a xs)
    obtain ⟨as, q, z⟩ := h2.reads I rv
    exact ⟨_, .list ho hc hd q, fun hs hm => (List.mem_cons.mp hm).elim (fun e => sys_ne I hs ho hc e.symm) (z hs)⟩
end
section
variable {X : Cx}
def rC (K : PySem.W.Frag) (f : D → D → Option Bool) : R2 := fun x y H Q => ∃ Ex dx dy z, Sh K H Ex x dx ∧ Sh K H Ex y dy ∧ f dx dy = some z ∧ Q (.bl z) H
theorem if_someB {c : Bool} {a b : Bool} (h : (if c = true then some a else none) = some b) : c = true ∧ a = b := by
  cases c with
  | true => exact ⟨rfl, Option.some.inj (by simpa using h)⟩
  | false => simp at h
theorem is_non {K : PySem.W.Frag} {H : Hp} {Ex : Addr → Prop} {v : V} {d : D} (h : Sh K H Ex v d) : decide (v = .non) = isNoneD d := by
  rcases h with h | ⟨a, xs, ds, rfl, rfl, h1, h2⟩
  · cases h <;> rfl
  · rfl
theorem bareE_of {dx dy : D} (h : bareE dx dy = true) : (∃ xs, dx = .list xs ∧ dy = .list []) ∨ ∃ xs, dx = .tuple xs ∧ dy = .tuple [] := by
  cases dx with
  | list xs => cases dy with
    | list ys => cases ys with
      | nil => exact .inl ⟨xs, rfl, rfl⟩
      | cons _ _ => cases h
    | _ => cases h
  | tuple xs => cases dy with
    | tuple ys => cases ys with
      | nil => exact .inr ⟨xs, rfl, rfl⟩
      | cons _ _ => cases h
    | _ => cases h
  | _ => cases h
theorem shp_nilL : shp (.list []) = true := by decide +kernel
theorem shp_nilT : shp (.tuple []) = true := by decide +kernel
theorem readsAll_len {h : Heap} : ∀ {vs : List Value} {xs : List D} {as : List Addr}, ReadsAll h vs xs as → vs.length = xs.length
  | _, _, _, .nil => rfl
  | _, _, _, .cons _ r => congrArg Nat.succ (readsAll_len r)
theorem reads_listAt {h : Heap} {v : Value} {xs : List D} {as : List Addr} (r : Reads h v (.list xs) as) : ∃ a vs, v = .ref a ∧ h.IsList a vs ∧ vs.size = xs.length := by
  cases r with
  | list k1 k2 k3 k4 => exact ⟨_, _, rfl, ⟨_, k1, k2, _, k3⟩, by simpa using readsAll_len k4⟩
theorem reads_tupAt {h : Heap} {v : Value} {xs : List D} {as : List Addr} (r : Reads h v (.tuple xs) as) : ∃ a vs, v = .ref a ∧ h.IsTuple a vs ∧ vs.size = xs.length := by
  cases r with
  | tuple k1 k2 k3 k4 => exact ⟨_, _, rfl, ⟨_, k1, k2, _, k3⟩, by simpa using readsAll_len k4⟩
theorem eqD (hu : X.A.units + 64 < cLine) {pins : List (Addr × Obj)} {s : Shared} {σ : L2.St} {H : Hp} {Ex : Addr → Prop} {x y : V} {v u : Value} {dx dy : D} {z : Bool} {Q : VK} (I : Inv X pins σ H s) (rx : RelV x v) (ry : RelV y u) (hx : Sh X.K H Ex x dx) (hy : Sh X.K H Ex y dy)
    (hf : (if shpE dx dy = true then some (PyData.eqv dx dy) else none) = some z) (q : Q (.bl z) H) : wpAny (model X.prog X.w) X.A (compareOp .Eq v u) (EP X pins σ Q) X.xe s := by
  obtain ⟨hl, rfl⟩ := if_someB hf
  obtain ⟨as, r1, _⟩ := hx.reads I rx
  obtain ⟨bs, r2, _⟩ := hy.reads I ry
  have hl' : (shp dx && shp dy) = true ∨ bareE dx dy = true := by
    unfold shpE at hl
    rwa [Bool.or_eq_true] at hl
  rcases hl' with hl | hl
  case inr =>
    rcases bareE_of hl with ⟨xs, rfl, rfl⟩ | ⟨xs, rfl, rfl⟩
    · obtain ⟨a, vs, rfl, ha, hva⟩ := reads_listAt r1
      obtain ⟨b, ws, rfl, hb, hvb⟩ := reads_listAt r2
      cases xs with
      | nil => exact SeqAt.compareEq_shaped r1 r2 shp_nilL shp_nilL hu ⟨.bl _, H, I, rfl, q⟩
      | cons x xs => exact SeqAt.RcAt.lists_lengths ha hb (by rw [hva, hvb]; rfl) (by omega) _ _ _ _ ⟨.bl false, H, I, rfl, q⟩
    · obtain ⟨a, vs, rfl, ha, hva⟩ := reads_tupAt r1
      obtain ⟨b, ws, rfl, hb, hvb⟩ := reads_tupAt r2
      cases xs with
      | nil => exact SeqAt.compareEq_shaped r1 r2 shp_nilT shp_nilT hu ⟨.bl _, H, I, rfl, q⟩
      | cons x xs =>
        have hr := SeqAt.RcAt.tuples (A := X.A) (s := s) (e := fun _ => true) ha hb (by omega) fun j h1 h2 => by rw [hvb] at h2; exact absurd h2 (Nat.not_lt_zero _)
        rw [show ((List.range (min vs.size ws.size)).all (fun _ => true) && vs.size == ws.size) = false by rw [hva, hvb]; simp] at hr
        exact hr _ _ _ _ ⟨.bl false, H, I, rfl, q⟩
  rw [Bool.and_eq_true] at hl
  exact SeqAt.compareEq_shaped r1 r2 hl.1 hl.2 hu ⟨.bl _, H, I, rfl, q⟩
theorem neD (hu : X.A.units + 64 < cLine) {pins : List (Addr × Obj)} {s : Shared} {σ : L2.St} {H : Hp} {Ex : Addr → Prop} {x y : V} {v u : Value} {dx dy : D} {z : Bool} {Q : VK} (I : Inv X pins σ H s) (rx : RelV x v) (ry : RelV y u) (hx : Sh X.K H Ex x dx) (hy : Sh X.K H Ex y dy)
    (hf : (if shpE dx dy = true then some (!PyData.eqv dx dy) else none) = some z) (q : Q (.bl z) H) : wpAny (model X.prog X.w) X.A (compareOp .NotEq v u) (EP X pins σ Q) X.xe s := by
  obtain ⟨hl, rfl⟩ := if_someB hf
  obtain ⟨as, r1, _⟩ := hx.reads I rx
  obtain ⟨bs, r2, _⟩ := hy.reads I ry
  have hl' : (shp dx && shp dy) = true ∨ bareE dx dy = true := by
    unfold shpE at hl
    rwa [Bool.or_eq_true] at hl
  rcases hl' with hl | hl
  case inr =>
    rcases bareE_of hl with ⟨xs, rfl, rfl⟩ | ⟨xs, rfl, rfl⟩
    · obtain ⟨a, vs, rfl, ha, hva⟩ := reads_listAt r1
      obtain ⟨b, ws, rfl, hb, hvb⟩ := reads_listAt r2
      cases xs with
      | nil => exact SeqAt.compareNe_shaped r1 r2 shp_nilL shp_nilL hu ⟨.bl _, H, I, rfl, q⟩
      | cons x xs => exact SeqAt.RcNeAt.lists_lengths ha hb (by rw [hva, hvb]; rfl) (by omega) _ _ _ _ ⟨.bl true, H, I, rfl, q⟩
    · obtain ⟨a, vs, rfl, ha, hva⟩ := reads_tupAt r1
      obtain ⟨b, ws, rfl, hb, hvb⟩ := reads_tupAt r2
      cases xs with
      | nil => exact SeqAt.compareNe_shaped r1 r2 shp_nilT shp_nilT hu ⟨.bl _, H, I, rfl, q⟩
      | cons x xs =>
        have hr := SeqAt.RcNeAt.tuples (A := X.A) (s := s) (e := fun _ => true) ha hb (by omega) fun j h1 h2 => by rw [hvb] at h2; exact absurd h2 (Nat.not_lt_zero _)
        rw [show ((List.range (min vs.size ws.size)).all (fun _ => true) && vs.size == ws.size) = false by rw [hva, hvb]; simp] at hr
        exact hr _ _ _ _ ⟨.bl true, H, I, rfl, q⟩
  rw [Bool.and_eq_true] at hl
  exact SeqAt.compareNe_shaped r1 r2 hl.1 hl.2 hu ⟨.bl _, H, I, rfl, q⟩
theorem op_cmp (hu : X.A.units + 66 < cLine) (op : CmpOp) : OpR X (compareOp op) (rC X.K (cmpD op)) := by
  intro pins s σ H x y v u Q I rx ry h
  obtain ⟨Ex, dx, dy, z, hx, hy, hf, q⟩ := h
  have hu1 : X.A.units + 64 < cLine := by omega
  have intz : ∀ {g : Int → Int → Bool} {a b : Int}, OpR X (compareOp op) (rI0 fun i j => .bl (g i j)) → dx = .int a → dy = .int b → some (g a b) = some z → wpAny (model X.prog X.w) X.A (compareOp op v u) (EP X pins σ Q) X.xe s := by
    intro g a b o e1 e2 e3
    subst e1 e2
    cases e3
    obtain rfl := sh_int hx
    obtain rfl := sh_int hy
    exact o pins s σ H _ _ v u Q I rx ry ⟨a, b, rfl, rfl, q⟩
  cases op with
  | Eq =>
    cases dx with
    | int a => cases dy with
      | int b =>
        obtain rfl := sh_int hx
        obtain rfl := sh_int hy
        have hf' : some (decide (a = b)) = some z := hf
        cases hf'
        exact op_eq pins s σ H _ _ v u Q I rx ry ⟨rfl, by simpa using q⟩
      | _ => exact eqD hu1 I rx ry hx hy hf q
    | str a => cases dy with
      | str b =>
        obtain rfl := sh_str hx
        obtain rfl := sh_str hy
        have hf' : some (decide (a = b)) = some z := hf
        cases hf'
        exact op_eq pins s σ H _ _ v u Q I rx ry ⟨rfl, by simpa using q⟩
      | _ => exact eqD hu1 I rx ry hx hy hf q
    | _ => cases dy <;> exact eqD hu1 I rx ry hx hy hf q
  | NotEq =>
    cases dx with
    | int a => cases dy with
      | int b =>
        obtain rfl := sh_int hx
        obtain rfl := sh_int hy
        have hf' : some (!decide (a = b)) = some z := hf
        cases hf'
        exact op_ne pins s σ H _ _ v u Q I rx ry ⟨rfl, by simpa using q⟩
      | _ => exact neD hu1 I rx ry hx hy hf q
    | str a => cases dy with
      | str b =>
        obtain rfl := sh_str hx
        obtain rfl := sh_str hy
        have hf' : some (!decide (a = b)) = some z := hf
        cases hf'
        exact op_ne pins s σ H _ _ v u Q I rx ry ⟨rfl, by simpa using q⟩
      | _ => exact neD hu1 I rx ry hx hy hf q
    | _ => cases dy <;> exact neD hu1 I rx ry hx hy hf q
  | Lt => cases dx with
    | int a => cases dy with
      | int b => exact intz op_lt rfl rfl hf
      | _ => cases hf
    | _ => cases dy <;> cases hf
  | LtE => cases dx with
    | int a => cases dy with
      | int b => exact intz op_le rfl rfl hf
      | _ => cases hf
    | _ => cases dy <;> cases hf
  | Gt => cases dx with
    | int a => cases dy with
      | int b => exact intz op_gt rfl rfl hf
      | _ => cases hf
    | _ => cases dy <;> cases hf
  | GtE => cases dx with
    | int a => cases dy with
      | int b => exact intz op_ge rfl rfl hf
      | _ => cases hf
    | _ => cases dy <;> cases hf
  | Is =>
    cases dy with
    | none =>
      obtain rfl := sh_none hy
      have hf' : some (isNoneD dx) = some z := by cases dx <;> exact hf
      rw [← is_non hx] at hf'
      cases hf'
      exact op_isN pins s σ H _ _ v u Q I rx ry ⟨rfl, q⟩
    | bool b => cases dx with
      | bool a =>
        have hx' : x = .bl a := by
          rcases hx with h | ⟨_, _, _, _, h, _⟩
          · exact rp_bool h
          · cases h
        have hy' : y = .bl b := by
          rcases hy with h | ⟨_, _, _, _, h, _⟩
          · exact rp_bool h
          · cases h
        have hf' : some (decide (a = b)) = some z := hf
        cases hf'
        exact op_is_bl pins s σ H _ _ v u Q I rx ry ⟨a, b, hx', hy', q⟩
      | _ => cases hf
    | _ => cases dx <;> cases hf
  | IsNot =>
    cases dy with
    | none =>
      obtain rfl := sh_none hy
      have hf' : some (!isNoneD dx) = some z := by cases dx <;> exact hf
      rw [← is_non hx] at hf'
      cases hf'
      exact op_notN pins s σ H _ _ v u Q I rx ry ⟨rfl, q⟩
    | bool b => cases dx with
      | bool a =>
        have hx' : x = .bl a := by
          rcases hx with h | ⟨_, _, _, _, h, _⟩
          · exact rp_bool h
          · cases h
        have hy' : y = .bl b := by
          rcases hy with h | ⟨_, _, _, _, h, _⟩
          · exact rp_bool h
          · cases h
        have hf' : some (!decide (a = b)) = some z := hf
        cases hf'
        exact op_isnot_bl pins s σ H _ _ v u Q I rx ry ⟨a, b, hx', hy', q⟩
      | _ => cases hf
    | _ => cases dx <;> cases hf
  | In =>
    have hst : ∀ {a b : Str}, dx = .str a → dy = .str b → some (!(Builtin.Str.occurrences b a 0 b.length 1).isEmpty) = some z → wpAny (model X.prog X.w) X.A (compareOp .In v u) (EP X pins σ Q) X.xe s := by
      intro a b e1 e2 e3
      subst e1 e2
      cases e3
      obtain rfl := sh_str hx
      obtain rfl := sh_str hy
      exact op_in_str pins s σ H _ _ v u Q I rx ry ⟨a, b, rfl, rfl, q⟩
    have hli : ∀ {xs : List D}, dy = .list xs → (if (shp dx && shp (.list xs)) = true then some (xs.any fun z => PyData.eqv z dx) else none) = some z → wpAny (model X.prog X.w) X.A (compareOp .In v u) (EP X pins σ Q) X.xe s := by
      intro xs e1 e2
      subst e1
      obtain ⟨hl, rfl⟩ := if_someB e2
      rw [Bool.and_eq_true] at hl
      obtain ⟨as, r1, _⟩ := hx.reads I rx
      obtain ⟨bs, r2, _⟩ := hy.reads I ry
      exact SeqAt.in_list_reads r2 r1 (SeqAt.canLay_of_shaped hl.2) (SeqAt.canLay_of_shaped hl.1) (room_in_shaped hl.1 (by omega)) ⟨.bl _, H, I, rfl, q⟩
    have htu : ∀ {xs : List D}, dy = .tuple xs → (if (shp dx && shp (.tuple xs)) = true then some (xs.any fun z => PyData.eqv z dx) else none) = some z → wpAny (model X.prog X.w) X.A (compareOp .In v u) (EP X pins σ Q) X.xe s := by
      intro xs e1 e2
      subst e1
      obtain ⟨hl, rfl⟩ := if_someB e2
      rw [Bool.and_eq_true] at hl
      obtain ⟨as, r1, _⟩ := hx.reads I rx
      obtain ⟨bs, r2, _⟩ := hy.reads I ry
      exact SeqAt.in_tuple_reads r2 r1 (SeqAt.canLay_of_shaped hl.2) (SeqAt.canLay_of_shaped hl.1) (room_in_shaped hl.1 (by omega)) ⟨.bl _, H, I, rfl, q⟩
    cases dy with
    | str b => cases dx with
      | str a => exact hst rfl rfl hf
      | _ => cases hf
    | list xs => cases dx <;> exact hli rfl hf
    | tuple xs => cases dx <;> exact htu rfl hf
    | _ => cases dx <;> cases hf
  | NotIn =>
    have hst : ∀ {a b : Str}, dx = .str a → dy = .str b → some (!(!(Builtin.Str.occurrences b a 0 b.length 1).isEmpty)) = some z → wpAny (model X.prog X.w) X.A (compareOp .NotIn v u) (EP X pins σ Q) X.xe s := by
      intro a b e1 e2 e3
      subst e1 e2
      cases e3
      obtain rfl := sh_str hx
      obtain rfl := sh_str hy
      exact op_notin_str pins s σ H _ _ v u Q I rx ry ⟨a, b, rfl, rfl, q⟩
    have hli : ∀ {xs : List D}, dy = .list xs → (if (shp dx && shp (.list xs)) = true then some (!xs.any fun z => PyData.eqv z dx) else none) = some z → wpAny (model X.prog X.w) X.A (compareOp .NotIn v u) (EP X pins σ Q) X.xe s := by
      intro xs e1 e2
      subst e1
      obtain ⟨hl, rfl⟩ := if_someB e2
      rw [Bool.and_eq_true] at hl
      obtain ⟨as, r1, _⟩ := hx.reads I rx
      obtain ⟨bs, r2, _⟩ := hy.reads I ry
      exact SeqAt.notIn_list_reads r2 r1 (SeqAt.canLay_of_shaped hl.2) (SeqAt.canLay_of_shaped hl.1) (room_in_shaped hl.1 (by omega)) ⟨.bl _, H, I, rfl, q⟩
    have htu : ∀ {xs : List D}, dy = .tuple xs → (if (shp dx && shp (.tuple xs)) = true then some (!xs.any fun z => PyData.eqv z dx) else none) = some z → wpAny (model X.prog X.w) X.A (compareOp .NotIn v u) (EP X pins σ Q) X.xe s := by
      intro xs e1 e2
      subst e1
      obtain ⟨hl, rfl⟩ := if_someB e2
      rw [Bool.and_eq_true] at hl
      obtain ⟨as, r1, _⟩ := hx.reads I rx
      obtain ⟨bs, r2, _⟩ := hy.reads I ry
      exact SeqAt.notIn_tuple_reads r2 r1 (SeqAt.canLay_of_shaped hl.2) (SeqAt.canLay_of_shaped hl.1) (room_in_shaped hl.1 (by omega)) ⟨.bl _, H, I, rfl, q⟩
    cases dy with
    | str b => cases dx with
      | str a => exact hst rfl rfl hf
      | _ => cases hf
    | list xs => cases dx <;> exact hli rfl hf
    | tuple xs => cases dx <;> exact htu rfl hf
    | _ => cases dx <;> cases hf
end
end Q

namespace Q
open PySem PySem.Spec PyProof.Rows L2
section
variable {X : Cx}
/-! ### subscripts, slices -/
theorem atI_rel {K : PySem.W.Frag} {H : Hp} {Ex : Addr → Prop} {xs : List V} {ds : List D} {i : Int} {z : D} (r : RpA K H Ex xs ds) (h : L2.atI ds i = some z) : ∃ x, L2.atI xs i = some x ∧ Rp K H Ex x z := by
  unfold L2.atI at h ⊢
  rw [r.len]
  cases e : L2.ixN ds.length i with
  | none => rw [e] at h; cases h
  | some j =>
    rw [e] at h
    exact r.get' h
theorem ix_data : IxR X (rB X.K idxD) := by
  intro value slice pins s σ H x y v u Q I rx ry h hs
  obtain ⟨Ex, dx, dy, z, hin, hx, hy, hf, q⟩ := h
  cases dy with
  | int i =>
    obtain rfl := sh_int hy
    cases dx with
    | tuple ds =>
      obtain ⟨p, xs, rfl, h1, h2, h3⟩ := sh_tup hx
      obtain ⟨w, h4, h5⟩ := atI_rel h2 (show L2.atI ds i = some z from hf)
      exact ix_tup value slice pins s σ H _ _ v u Q I rx ry ⟨p, xs, i, w, rfl, rfl, h1, h4, q.here h5⟩ hs
    | list ds =>
      obtain ⟨p, xs, rfl, h1, h2⟩ := sh_lst hx
      obtain ⟨w, h4, h5⟩ := atI_rel h2 (show L2.atI ds i = some z from hf)
      exact ix_list value slice pins s σ H _ _ v u Q I rx ry ⟨p, xs, i, w, rfl, rfl, h1, h4, q.here h5⟩ hs
    | str t =>
      obtain rfl := sh_str hx
      by_cases hl : lenOk t.length = true
      · have hf' : (L2.atI t.cps.toList i).map (fun c => PyData.str ⟨#[c]⟩) = some z := by
          have e : (if lenOk t.length = true then (L2.atI t.cps.toList i).map (fun c => PyData.str ⟨#[c]⟩) else none) = some z := hf
          rw [if_pos hl] at e; exact e
        cases hc : L2.atI t.cps.toList i with
        | none => rw [hc] at hf'; cases hf'
        | some c =>
          rw [hc] at hf'; cases hf'
          exact ix_str value slice pins s σ H _ _ v u Q I rx ry ⟨t, i, c, rfl, rfl, of_decide_eq_true hl, hc, q.str⟩ hs
      · have e : (if lenOk t.length = true then (L2.atI t.cps.toList i).map (fun c => PyData.str ⟨#[c]⟩) else none) = some z := hf
        rw [if_neg hl] at e; cases e
    | _ => cases hf
  | _ => cases dx <;> cases hf
def rSl (K : PySem.W.Frag) : V → Option Int → Option Int → Hp → VK → Prop := fun x lo hi H Q => ∃ Ex dx z, In H Ex ∧ Sh K H Ex x dx ∧ slD dx lo hi = some z ∧ Out K H Ex z Q
theorem cut_rel {K : PySem.W.Frag} {H : Hp} {Ex : Addr → Prop} {xs : List V} {ds : List D} {lo hi : Option Int} (r : RpA K H Ex xs ds) : RpA K H Ex (L2.cutV xs lo hi) (cutL ds lo hi) := by
  unfold L2.cutV cutL
  rw [r.len]
  exact (r.drop _).take _
theorem cut_whole {ds : List D} {lo hi : Option Int} (h : HT.sIx ds.length 0 lo = 0 ∧ HT.sIx ds.length ds.length hi = ds.length) : cutL ds lo hi = ds := by
  unfold cutL
  rw [h.1, h.2, List.drop_zero, Nat.sub_zero, List.take_length]
theorem sl_data : SlR X (rSl X.K) := by
  intro pins s σ H x v vl vu lo hi sl Q I rx hs pl pu h
  obtain ⟨Ex, dx, z, hin, hx, hf, q⟩ := h
  cases dx with
  | tuple ds =>
    cases hf
    obtain ⟨p, xs, rfl, h1, h2, h3⟩ := sh_tup hx
    refine sl_tupA pins s σ H _ v vl vu lo hi sl Q I rx hs pl pu ⟨p, xs, rfl, h1, fun e => q.here ?_, fun _ => q.tup hin (cut_rel h2)⟩
    rw [h2.len] at e
    rw [cut_whole e]; exact h3
  | list ds =>
    cases hf
    obtain ⟨p, xs, rfl, h1, h2⟩ := sh_lst hx
    exact sl_list pins s σ H _ v vl vu lo hi sl Q I rx hs pl pu ⟨p, xs, rfl, h1, q.lst hin (cut_rel h2)⟩
  | _ => cases hf
/-! ### built-ins -/
inductive ShA (K : PySem.W.Frag) (H : Hp) (Ex : Addr → Prop) : List V → List D → Prop
  | nil : ShA K H Ex [] []
  | cons {v : V} {vs : List V} {d : D} {ds : List D} : Sh K H Ex v d → ShA K H Ex vs ds → ShA K H Ex (v :: vs) (d :: ds)
def bltV : Bt → Value
  | .len => .builtin "len"
  | .int => .type "int"
  | .abs => .builtin "abs"
  | .max => .builtin "max"
  | .min => .builtin "min"
  | .sum => .builtin "sum"
  | .all => .builtin "all"
  | .any => .builtin "any"
  | .tuple => .type "tuple"
  | .list => .type "list"
  | .repr => .builtin "repr"
  | .gcd => .builtin "math.gcd"
  | .str => .type "str"
  | .sorted => .builtin "sorted"
  | .bitlen => .builtin "int.bit_length"
def rBl (K : PySem.W.Frag) (b : Bt) : List V → Hp → VK → Prop := fun vs H Q => ∃ Ex ds z, In H Ex ∧ ShA K H Ex vs ds ∧ bltD b ds = some z ∧ Out K H Ex z Q
theorem shA1 {K : PySem.W.Frag} {H : Hp} {Ex : Addr → Prop} {vs : List V} {d : D} (h : ShA K H Ex vs [d]) : ∃ v, vs = [v] ∧ Sh K H Ex v d := by
  cases h with
  | cons h1 h2 => cases h2; exact ⟨_, rfl, h1⟩
theorem shA2 {K : PySem.W.Frag} {H : Hp} {Ex : Addr → Prop} {vs : List V} {d e : D} (h : ShA K H Ex vs [d, e]) : ∃ v w, vs = [v, w] ∧ Sh K H Ex v d ∧ Sh K H Ex w e := by
  cases h with
  | cons h1 h2 => cases h2 with
    | cons h3 h4 => cases h4; exact ⟨_, _, rfl, h1, h3⟩
theorem shA3 {K : PySem.W.Frag} {H : Hp} {Ex : Addr → Prop} {vs : List V} {d e f : D} (h : ShA K H Ex vs [d, e, f]) : ∃ v w y, vs = [v, w, y] ∧ Sh K H Ex v d ∧ Sh K H Ex w e ∧ Sh K H Ex y f := by
  cases h with
  | cons h1 h2 => cases h2 with
    | cons h3 h4 => cases h4 with
      | cons h5 h6 => cases h6; exact ⟨_, _, _, rfl, h1, h3, h5⟩
theorem sum_tup {pins : List (Addr × Obj)} {s : Shared} {σ : L2.St} {H : Hp} {a : Addr} {ns : List Int} {Q : VK} (hc : X.calm = true) (I : Inv X pins σ H s) (hs : SqT X.K H a (ns.map V.int)) (q : Q (.int ns.sum) H) :
    wpAny (model X.prog X.w) X.A (call (.builtin "sum") [.ref a]) (EP X pins σ Q) X.xe s := by
  obtain ⟨its, rv, ht, _⟩ := I.tuple hs
  have hi := rv.ints
  obtain ⟨xs, e⟩ := hi.allInts.items
  have hn : numsOf (intItems xs).toList = ns := by rw [← e]; exact hi.numsOf
  rw [nums_intItems] at hn
  rw [e] at ht
  have hlt : a < s.heap.objs.size := ht.lt
  refine call_sum_walkG (wpAny_pyIter_tuple (show s.heap.IsTuple a (intItems xs) from ht) ⟨_, _, _, _, _, _, numAt xs, rfl, Walks.tuple (A := X.A.in1) (I.ok.hd hc) _ a (Nat.ne_of_lt hlt) (intItems xs), ?_, ?_, (fun _ _ => intItems_at), fun h' tk t' hk => ?_⟩)
  · exact ⟨⟨_, Heap.get?_push_size _ rfl, rfl, rfl⟩, (show s.heap.IsTuple a (intItems xs) from ht).push _⟩
  · intro b hb
    have hb' : b = s.heap.objs.size ∨ b = a := by simpa using hb
    rcases hb' with e | e
    · rw [e]; exact Heap.size_push s.heap _ ▸ Nat.lt_succ_self _
    · rw [e]; exact Heap.size_push s.heap _ ▸ Nat.lt_succ_of_lt hlt
  · refine ⟨.int ns.sum, H, I.kept fun b o eo => hk b o (fun hm => ?_) (Heap.get?_push_of_some _ eo), ⟨t', ?_⟩, q⟩
    · have e1 : b = s.heap.objs.size := by simpa using hm
      exact absurd (e1 ▸ Heap.lt_size eo) (Nat.lt_irrefl _)
    · have e2 : preSum (numAt xs) (intItems xs).size = ns.sum := by
        have : (intItems xs).size = xs.size := by simp [intItems]
        rw [this, preSum_eq, List.take_of_length_le (by simp), hn]
      rw [e2]
end
end Q

namespace Q
open PySem PySem.Spec PyProof.Rows L2
theorem max3_v {i j l : Int} : L2.nuMax3 (.int i) (.int j) (.int l) = some (.int (if l > (if j > i then j else i) then l else (if j > i then j else i))) := by
  have e1 : L2.nuMax2 (.int i) (.int j) = some (if decide (i < j) = true then .int j else .int i) := rfl
  have e2 : ∀ m : Int, L2.nuMax2 (.int m) (.int l) = some (if decide (m < l) = true then .int l else .int m) := fun _ => rfl
  unfold L2.nuMax3
  rw [e1, Option.bind_some]
  by_cases h : i < j
  · rw [decide_eq_true h, if_pos rfl, e2, if_pos (show j > i from h)]
    by_cases h2 : j < l
    · rw [decide_eq_true h2, if_pos rfl, if_pos (show l > j from h2)]
    · rw [decide_eq_false h2, if_neg (by decide), if_neg (show ¬ l > j from h2)]
  · rw [decide_eq_false h, if_neg (by decide), e2, if_neg (show ¬ j > i from h)]
    by_cases h2 : i < l
    · rw [decide_eq_true h2, if_pos rfl, if_pos (show l > i from h2)]
    · rw [decide_eq_false h2, if_neg (by decide), if_neg (show ¬ l > i from h2)]
section
variable {X : Cx}
theorem all_tup {pins : List (Addr × Obj)} {s : Shared} {σ : L2.St} {H : Hp} {a : Addr} {bs : List Bool} {Q : VK} (hc : X.calm = true) (I : Inv X pins σ H s) (hs : SqT X.K H a (bs.map V.bl)) (q : Q (.bl (bs.all id)) H) :
    wpAny (model X.prog X.w) X.A (call (.builtin "all") [.ref a]) (EP X pins σ Q) X.xe s := by
  obtain ⟨its, rv, ht, _⟩ := I.tuple hs
  have hb := rv.bls
  have hlt : a < s.heap.objs.size := ht.lt
  refine call_all_walk (wpAny_pyIter_tuple (show s.heap.IsTuple a its.toArray from ht) ⟨_, _, _, _, _, _, _, rfl, Walks.tuple (A := X.A.in1) (I.ok.hd hc) _ a (Nat.ne_of_lt hlt) its.toArray, ?_, truth_bools hb, fun h' tk hk => ?_⟩)
  · exact ⟨⟨_, Heap.get?_push_size _ rfl, rfl, rfl⟩, (show s.heap.IsTuple a its.toArray from ht).push _⟩
  · refine ⟨.bl _, H, I.kept fun b o eo => hk b o (fun hm => ?_) (Heap.get?_push_of_some _ eo), ?_, q⟩
    · rcases List.mem_cons.mp hm with e1 | hm
      · exact absurd (e1 ▸ Heap.lt_size eo) (Nat.lt_irrefl _)
      · cases hm
    · show Value.bool _ = Value.bool _
      rw [← L2.all_range, hb, List.size_toArray, List.length_map]
theorem any_tup {pins : List (Addr × Obj)} {s : Shared} {σ : L2.St} {H : Hp} {a : Addr} {bs : List Bool} {Q : VK} (hc : X.calm = true) (I : Inv X pins σ H s) (hs : SqT X.K H a (bs.map V.bl)) (q : Q (.bl (bs.any id)) H) :
    wpAny (model X.prog X.w) X.A (call (.builtin "any") [.ref a]) (EP X pins σ Q) X.xe s := by
  obtain ⟨its, rv, ht, _⟩ := I.tuple hs
  have hb := rv.bls
  have hlt : a < s.heap.objs.size := ht.lt
  refine call_any_walk (wpAny_pyIter_tuple (show s.heap.IsTuple a its.toArray from ht) ⟨_, _, _, _, _, _, _, rfl, Walks.tuple (A := X.A.in1) (I.ok.hd hc) _ a (Nat.ne_of_lt hlt) its.toArray, ?_, truth_bools hb, fun h' tk hk => ?_⟩)
  · exact ⟨⟨_, Heap.get?_push_size _ rfl, rfl, rfl⟩, (show s.heap.IsTuple a its.toArray from ht).push _⟩
  · refine ⟨.bl _, H, I.kept fun b o eo => hk b o (fun hm => ?_) (Heap.get?_push_of_some _ eo), ?_, q⟩
    · rcases List.mem_cons.mp hm with e1 | hm
      · exact absurd (e1 ▸ Heap.lt_size eo) (Nat.lt_irrefl _)
      · cases hm
    · show Value.bool _ = Value.bool _
      rw [← L2.any_range, hb, List.size_toArray, List.length_map]
theorem map_some {α β : Type} {f : α → β} {o : Option α} {z : β} (h : o.map f = some z) : ∃ x, o = some x ∧ f x = z := by
  cases o with
  | none => cases h
  | some x => exact ⟨x, rfl, Option.some.inj h⟩
theorem bind_some' {α β : Type} {f : α → Option β} {o : Option α} {z : β} (h : o.bind f = some z) : ∃ x, o = some x ∧ f x = some z := by
  cases o with
  | none => cases h
  | some x => exact ⟨x, rfl, h⟩
/-- what is a list or a tuple -/
theorem items_of {K : PySem.W.Frag} {H : Hp} {Ex : Addr → Prop} {v : V} {d : D} {xs : List D} (h : Sh K H Ex v d) (e : itemsD d = some xs) :
    ∃ a vs, v = .ref a ∧ RpA K H Ex vs xs ∧ ((SqL K H a vs ∧ d = .list xs) ∨ (SqT K H a vs ∧ d = .tuple xs ∧ Rp K H Ex v d)) := by
  cases d with
  | list ds =>
    cases e
    obtain ⟨p, vs, rfl, h1, h2⟩ := sh_lst h
    exact ⟨p, vs, rfl, h2, .inl ⟨h1, rfl⟩⟩
  | tuple ds =>
    cases e
    obtain ⟨p, vs, rfl, h1, h2, h3⟩ := sh_tup h
    exact ⟨p, vs, rfl, h2, .inr ⟨h1, rfl, h3⟩⟩
  | _ => cases e
/-- those that walk, or read two values -/
def walksB : Bt → Bool
  | .len => false
  | .abs => false
  | .int => false
  | .repr => false
  | _ => true
theorem cr_blt {b : Bt} (hc : walksB b = true → X.calm = true) (hg : X.A.guards = some []) (hu : X.A.units + 64 < cLine) (hsys : SysM X.K) : CallR X (bltV b) (rBl X.K b) := by
  intro pins s σ H vs us Q I r h
  obtain ⟨Ex, ds, z, hin, hs, hf, q⟩ := h
  cases b with
  | len => match ds, hf with
    | [.tuple xs], hf =>
      cases hf
      obtain ⟨v, rfl, h1⟩ := shA1 hs
      obtain ⟨p, ws, rfl, h2, h3, _⟩ := sh_tup h1
      exact call_len pins s σ H _ us Q I r ⟨_, ws.length, rfl, .inr ⟨ws, h2, rfl⟩, by rw [h3.len]; exact q.int⟩
    | [.list xs], hf =>
      cases hf
      obtain ⟨v, rfl, h1⟩ := shA1 hs
      obtain ⟨p, ws, rfl, h2, h3⟩ := sh_lst h1
      exact call_len pins s σ H _ us Q I r ⟨_, ws.length, rfl, .inl ⟨ws, h2, rfl⟩, by rw [h3.len]; exact q.int⟩
    | [.str t], hf =>
      obtain ⟨hl, rfl⟩ := if_some (show (if lenOk t.length = true then some (PyData.int t.length) else none) = some z from hf)
      obtain ⟨v, rfl, h1⟩ := shA1 hs
      obtain rfl := sh_str h1
      exact call_len pins s σ H _ us Q I r ⟨_, t.length, rfl, ⟨of_decide_eq_true hl, rfl⟩, q.int⟩
  | int => match ds, hf with
    | [.int i], hf =>
      cases hf
      obtain ⟨v, rfl, h1⟩ := shA1 hs
      obtain rfl := sh_int h1
      exact call_int1 pins s σ H _ us Q I r (.inl ⟨i, rfl, q.int⟩)
    | [.bool b], hf =>
      cases hf
      obtain ⟨v, rfl, h1⟩ := shA1 hs
      have e : v = .bl b := by
        rcases h1 with h | ⟨_, _, _, _, h, _⟩
        · exact rp_bool h
        · cases h
      subst e
      exact call_int1 pins s σ H _ us Q I r (.inr ⟨b, rfl, q.int⟩)
  | abs => match ds, hf with
    | [.int i], hf =>
      cases hf
      obtain ⟨v, rfl, h1⟩ := shA1 hs
      obtain rfl := sh_int h1
      refine call_abs pins s σ H _ us Q I r ⟨i, rfl, ?_⟩
      have e : (if i < 0 then -i else i) = (i.natAbs : Int) := by split <;> omega
      rw [e]; exact q.int
  | max => match ds, hf with
    | [.int i, .int j], hf =>
      cases hf
      obtain ⟨v, w, rfl, h1, h2⟩ := shA2 hs
      obtain rfl := sh_int h1
      obtain rfl := sh_int h2
      exact call_max2 (hc rfl) pins s σ H _ us Q I r ⟨i, j, rfl, q.int⟩
    | [.int i, .int j, .int l], hf =>
      cases hf
      obtain ⟨v, w, y, rfl, h1, h2, h3⟩ := shA3 hs
      obtain rfl := sh_int h1
      obtain rfl := sh_int h2
      obtain rfl := sh_int h3
      refine call_max3Nu (hc rfl) pins s σ H _ us Q I r ⟨.int i, .int j, .int l, _, rfl, max3_v, q.int⟩
    | [.list xs], hf =>
      obtain ⟨ns, e1, e2⟩ := bind_some' (show (intsD xs).bind (fun ns => ns.max?.map PyData.int) = some z from hf)
      obtain ⟨m, e3, rfl⟩ := map_some e2
      obtain ⟨v, rfl, h1⟩ := shA1 hs
      obtain ⟨p, ws, rfl, h2, h3⟩ := sh_lst h1
      have e4 := h3.ints e1
      subst e4
      obtain ⟨hm1, hm2⟩ := List.max?_eq_some_iff.mp e3
      refine cr_max (hc rfl) pins s σ H _ us Q I r ⟨p, ns, rfl, h2, List.length_pos_of_mem hm1, fun m' h4 h5 => ?_⟩
      have e : m' = m := by
        have := hm2 m' h4
        have := h5 m hm1
        omega
      rw [e]; exact q.int
  | min => match ds, hf with
    | [.int i, .int j], hf =>
      cases hf
      obtain ⟨v, w, rfl, h1, h2⟩ := shA2 hs
      obtain rfl := sh_int h1
      obtain rfl := sh_int h2
      exact call_min2 (hc rfl) pins s σ H _ us Q I r ⟨i, j, rfl, q.int⟩
    | [.list xs], hf =>
      obtain ⟨ns, e1, e2⟩ := bind_some' (show (intsD xs).bind (fun ns => ns.min?.map PyData.int) = some z from hf)
      obtain ⟨m, e3, rfl⟩ := map_some e2
      obtain ⟨v, rfl, h1⟩ := shA1 hs
      obtain ⟨p, ws, rfl, h2, h3⟩ := sh_lst h1
      have e4 := h3.ints e1
      subst e4
      obtain ⟨hm1, hm2⟩ := List.min?_eq_some_iff.mp e3
      refine cr_min (hc rfl) pins s σ H _ us Q I r ⟨p, ns, rfl, h2, List.length_pos_of_mem hm1, fun m' h4 h5 => ?_⟩
      have e : m' = m := by
        have := hm2 m' h4
        have := h5 m hm1
        omega
      rw [e]; exact q.int
  | sum => match ds, hf with
    | [x], hf =>
      obtain ⟨xs, e1, e2⟩ := bind_some' (show (itemsD x).bind (fun xs => (intsD xs).map fun ns => PyData.int ns.sum) = some z from hf)
      obtain ⟨ns, e3, rfl⟩ := map_some e2
      obtain ⟨v, rfl, h1⟩ := shA1 hs
      obtain ⟨p, ws, rfl, h2, h3⟩ := items_of h1 e1
      have e4 := h2.ints e3
      rcases h3 with ⟨h3, _⟩ | ⟨h3, _⟩
      · exact cr_sum (hc rfl) pins s σ H _ us Q I r ⟨p, ns, rfl, by rw [← e4]; exact h3, q.int⟩
      · rw [Vals.ref1 r]
        exact sum_tup (hc rfl) I (by rw [← e4]; exact h3) q.int
  | all => match ds, hf with
    | [x], hf =>
      obtain ⟨xs, e1, e2⟩ := bind_some' (show (itemsD x).bind (fun xs => (boolsD xs).map fun ns => PyData.bool (ns.all id)) = some z from hf)
      obtain ⟨ns, e3, rfl⟩ := map_some e2
      obtain ⟨v, rfl, h1⟩ := shA1 hs
      obtain ⟨p, ws, rfl, h2, h3⟩ := items_of h1 e1
      have e4 := h2.bools e3
      rcases h3 with ⟨h3, _⟩ | ⟨h3, _⟩
      · exact cr_all (hc rfl) pins s σ H _ us Q I r ⟨p, ns, rfl, by rw [← e4]; exact h3, q.bl⟩
      · rw [Vals.ref1 r]
        exact all_tup (hc rfl) I (by rw [← e4]; exact h3) q.bl
  | any => match ds, hf with
    | [x], hf =>
      obtain ⟨xs, e1, e2⟩ := bind_some' (show (itemsD x).bind (fun xs => (boolsD xs).map fun ns => PyData.bool (ns.any id)) = some z from hf)
      obtain ⟨ns, e3, rfl⟩ := map_some e2
      obtain ⟨v, rfl, h1⟩ := shA1 hs
      obtain ⟨p, ws, rfl, h2, h3⟩ := items_of h1 e1
      have e4 := h2.bools e3
      rcases h3 with ⟨h3, _⟩ | ⟨h3, _⟩
      · exact cr_any (hc rfl) pins s σ H _ us Q I r ⟨p, ns, rfl, by rw [← e4]; exact h3, q.bl⟩
      · rw [Vals.ref1 r]
        exact any_tup (hc rfl) I (by rw [← e4]; exact h3) q.bl
  | tuple => match ds, hf with
    | [x], hf =>
      obtain ⟨xs, e1, rfl⟩ := map_some (show (itemsD x).map PyData.tuple = some z from hf)
      obtain ⟨v, rfl, h1⟩ := shA1 hs
      obtain ⟨p, ws, rfl, h2, h3⟩ := items_of h1 e1
      rcases h3 with ⟨h3, _⟩ | ⟨h3, rfl, h4⟩
      · exact call_tuple_of pins s σ H _ us Q I r ⟨p, ws, rfl, .inl ⟨h3, q.tup hin h2⟩⟩
      · exact call_tuple_of pins s σ H _ us Q I r ⟨p, ws, rfl, .inr ⟨h3, q.here h4⟩⟩
  | list => match ds, hf with
    | [x], hf =>
      obtain ⟨xs, e1, rfl⟩ := map_some (show (itemsD x).map PyData.list = some z from hf)
      obtain ⟨v, rfl, h1⟩ := shA1 hs
      obtain ⟨p, ws, rfl, h2, h3⟩ := items_of h1 e1
      refine call_list_of pins s σ H _ us Q I r ⟨p, ws, rfl, ?_, q.lst hin h2⟩
      rcases h3 with ⟨h3, _⟩ | ⟨h3, _⟩
      · exact .inl h3
      · exact .inr h3
  | repr => match ds, hf with
    | [x], hf =>
      obtain ⟨hl, rfl⟩ := if_some (show (if (x.showable && lenOk x.shown.length && decide (x.depth ≤ 60)) = true then some (PyData.str x.shown) else none) = some z from hf)
      rw [Bool.and_eq_true, Bool.and_eq_true] at hl
      obtain ⟨⟨l1, l2⟩, l3⟩ := hl
      have l2 := of_decide_eq_true l2
      have l3 := of_decide_eq_true l3
      obtain ⟨v, rfl, h1⟩ := shA1 hs
      obtain ⟨u, rfl, ru⟩ := vals1 r
      have fin : ∀ h' u' tk, (∀ b o, s.heap.get? b = some o → h'.get? b = some o) → EP X pins σ Q (.str x.shown u') { s with heap := h', toks := tk } := fun h' u' tk hk => ⟨.str x.shown, H, I.kept hk, ⟨u', rfl⟩, q.str⟩
      obtain ⟨as, rd, hm⟩ := h1.reads I ru
      cases x with
      | none => cases rd; exact PySem.P.repr_of_none (fin s.heap _ _ fun _ _ e => e)
      | bool b => cases rd; exact PySem.P.repr_of_bool (fin s.heap _ _ fun _ _ e => e)
      | int i => cases rd; exact PySem.P.repr_of_int (by simpa [PyData.showable] using l1) (fin s.heap _ _ fun _ _ e => e)
      | str y => cases rd; exact PySem.P.repr_of_str (by have q := fin s.heap s.toks (s.toks + 1) fun _ _ e => e; simpa only [PyData.shown] using q) (by simpa only [PyData.shown] using l2)
      | list xs =>
        cases rd with
        | list e1 e2 e3 e4 => exact repr_of_reads' (.list e1 e2 e3 e4) l1 (fun _ => hm hsys) hg (by omega) (fun _ _ e => e) fin l2
      | tuple xs =>
        cases rd with
        | tuple e1 e2 e3 e4 => exact repr_of_reads' (.tuple e1 e2 e3 e4) l1 (fun _ => hm hsys) hg (by omega) (fun _ _ e => e) fin l2
      | dict xs =>
        cases rd with
        | dict e1 e2 e3 e4 e5 => exact repr_of_reads' (.dict e1 e2 e3 e4 e5) l1 (fun _ => hm hsys) hg (by omega) (fun _ _ e => e) fin l2
  | gcd => match ds, hf with
    | [.int i, .int j], hf =>
      cases hf
      obtain ⟨v, w, rfl, h1, h2⟩ := shA2 hs
      obtain rfl := sh_int h1
      obtain rfl := sh_int h2
      exact cr_gcd pins s σ H _ us Q I r ⟨i, j, rfl, q.int⟩
  | bitlen => match ds, hf with
    | [.int i], hf =>
      cases hf
      obtain ⟨v, rfl, h1⟩ := shA1 hs
      obtain rfl := sh_int h1
      obtain ⟨u, rfl, t, rfl⟩ := vals1 r
      exact call_int_bit_length ⟨.int _, H, I.tok _, ⟨_, rfl⟩, q.int⟩
  | str => match ds, hf with
    | [.int i], hf =>
      obtain ⟨hl, rfl⟩ := if_some (show (if decide (i.natAbs.log2 < 1920) = true then some (PyData.str (toString i)) else none) = some z from hf)
      obtain ⟨v, rfl, h1⟩ := shA1 hs
      obtain rfl := sh_int h1
      exact call_str_int pins s σ H _ us Q I r ⟨i, rfl, of_decide_eq_true hl, q.str⟩
    | [.str a], hf =>
      cases hf
      obtain ⟨v, rfl, h1⟩ := shA1 hs
      obtain rfl := sh_str h1
      exact SkE.call_str_str pins s σ H _ us Q I r ⟨a, rfl, q.str⟩
    | [.bool b], hf =>
      cases hf
      obtain ⟨v, rfl, h1⟩ := shA1 hs
      obtain rfl := sh_bool h1
      obtain ⟨u, rfl, r1⟩ := vals1 r
      cases r1
      exact PySem.P.str_of_bool ⟨.str _, H, I.tok _, ⟨_, rfl⟩, q.str⟩
    | [.none], hf =>
      cases hf
      obtain ⟨v, rfl, h1⟩ := shA1 hs
      obtain rfl := sh_none h1
      obtain ⟨u, rfl, r1⟩ := vals1 r
      cases r1
      exact PySem.P.str_of_none ⟨.str _, H, I.tok _, ⟨_, rfl⟩, q.str⟩
  | sorted => match ds, hf with
    | [], hf => cases hf
    | _ :: _, hf => cases hf
end
end Q

namespace Q
open PySem PySem.Spec PyProof.Rows L2

theorem peImp {X : Cx} {e : Expr} {t t' : TE} (h : PE X e t) (i : ∀ σ H Q, t' σ H Q → t σ H Q) : PE X e t' := ⟨fun pins s σ H Q I q => h.run pins s σ H Q I (i σ H Q q)⟩
theorem ptImp {X : Cx} {e : Expr} {t t' : TT} (h : PT X e t) (i : ∀ σ H Q, t' σ H Q → t σ H Q) : PT X e t' := ⟨fun pins s σ H Q I q => h.run pins s σ H Q I (i σ H Q q)⟩
theorem pwImp {X : Cx} {e : Expr} {t t' : TT} (h : PW X e t) (i : ∀ σ H Q, t' σ H Q → t σ H Q) : PW X e t' := ⟨fun w pins s σ H Q I q => h.run w pins s σ H Q I (i σ H Q q)⟩
theorem paImp {X : Cx} {e : List Expr} {t t' : TA} (h : PA X e t) (i : ∀ σ H Q, t' σ H Q → t σ H Q) : PA X e t' := ⟨fun p pins s σ H Q I q => h.run p pins s σ H Q I (i σ H Q q)⟩
theorem psImp {X : Cx} {e : Stmt} {t t' : TS} (h : PS X e t) (i : ∀ D σ H, t' D σ H → t D σ H) : PS X e t' := ⟨fun pins s σ H D I q => h.run pins s σ H D I (i D σ H q)⟩
theorem pssImp {X : Cx} {e : List Stmt} {t t' : TS} (h : PSs X e t) (i : ∀ D σ H, t' D σ H → t D σ H) : PSs X e t' := ⟨fun pins s σ H D I q => h.run pins s σ H D I (i D σ H q)⟩

/-- what is fixed through a proof: the written part, where the classes stand, the field of each error, what the defs and the module's names are worth -/
structure Ev where
  K : PySem.W.Frag
  cl : Cls
  fld : Str → Str
  G : Gx
section
variable (V0 : Ev) (W : WX)
def PostR {α β : Type} (g : Gh) (σ : L2.St) (t : Tau) (H : Hp) (r : Rs α) (rel : Hp → Gh → β → α → Prop) (Q : β → Hp → Prop) : Prop := match r with
  | .ok a k' => ∀ b H' d', Ext g.dk d' H H' → Sim V0.K V0.cl (g.at d') H' σ t k' → rel H' (g.at d') b a → Q b H'
  | .ex c x k' => ∀ d H' d' v, Ext g.dk d' H H' → Sim V0.K V0.cl (g.at d') H' σ t k' → Rp V0.K H' ((g.at d').Ex t) v x → XdR H' ((g.at d').Ex t) d (V0.fld c) v → W (.ref (V0.cl c)) (some d) σ H'
  | .no => False
abbrev relS' (t : Tau) : Hp → Gh → V → Sl → Prop := fun H g v s => RSl V0.K V0.cl H (g.Ex t) g.dk v s
/-- data, or a list of one's own that is lent -/
def relD (t : Tau) : Hp → Gh → V → D → Prop := fun H g v x => Rp V0.K H (g.Ex t) v x ∨ ∃ (i : Nat) (xs : List D), t[i]? = some (some (.own xs)) ∧ v = .ref (g.ad i) ∧ x = .list xs
abbrev relB' : Hp → Gh → Bool → Bool → Prop := fun _ _ b c => b = c
def relLS (t : Tau) : Hp → Gh → List V → List Sl → Prop := fun H g vs ss => Paired (fun v s => RSl V0.K V0.cl H (g.Ex t) g.dk v s) vs ss
def relLD (t : Tau) : Hp → Gh → List V → List D → Prop := fun H g vs ss => Paired (fun v x => relD V0 t H g v x) vs ss
abbrev relRD (t : Tau) : Hp → Gh → List V → List D → Prop := fun H g vs ss => RpA V0.K H (g.Ex t) vs ss
/-- the reading of r, by the state of the body -/
def tR {α β : Type} (r : Tau → Ds → Rs α) (rel : Tau → Hp → Gh → β → α → Prop) : L2.St → Hp → (β → Hp → Prop) → Prop := fun σ H Q => ∃ g t k, Sim V0.K V0.cl g H σ t k ∧ PostR V0 W g σ t H (r t k) (rel t) Q
abbrev tEv (e : IE) : TE := tR V0 W (fun t k => ev V0.G t e k) (relS' V0)
abbrev tEd (e : IE) : TE := tR V0 W (fun t k => evd V0.G t e k) (relD V0)
abbrev tEt (e : IE) : TT := tR V0 W (fun t k => tst (evd V0.G t e k)) fun _ => relB'
abbrev tEs (es : List IE) : TA := tR V0 W (fun t k => evs V0.G t es k) (relLS V0)
abbrev tEds (es : List IE) : TA := tR V0 W (fun t k => evds V0.G t es k) (relLD V0)
end
section
variable {V0 : Ev} {W : WX} {α β γ δ : Type} {g : Gh} {σ : L2.St} {t : Tau} {H H1 : Hp} {d1 : Da}
theorem PostR.at {r : Rs α} {rel : Hp → Gh → β → α → Prop} {Q : β → Hp → Prop} (e : Ext g.dk d1 H H1) (p : PostR V0 W g σ t H r rel Q) : PostR V0 W (g.at d1) σ t H1 r rel Q := by
  cases r with
  | ok a k => exact fun b H' d' x S q => p b H' d' (e.trans x) S q
  | ex c x k => exact fun d H' d' v x S q h => p d H' d' v (e.trans x) S q h
  | no => exact p
/-- a bind is read in two -/
theorem PostR.bind {r : Rs α} {f : α → Ds → Rs γ} {rel : Hp → Gh → δ → γ → Prop} {rel1 : Hp → Gh → β → α → Prop} {Q : δ → Hp → Prop} {Q1 : β → Hp → Prop} (p : PostR V0 W g σ t H (r.bind f) rel Q)
    (h : ∀ a k1 b H1 d1, Ext g.dk d1 H H1 → Sim V0.K V0.cl (g.at d1) H1 σ t k1 → rel1 H1 (g.at d1) b a → PostR V0 W (g.at d1) σ t H1 (f a k1) rel Q → Q1 b H1) : PostR V0 W g σ t H r rel1 Q1 := by
  cases r with
  | ok a k => exact fun b H1 d1 e S q => h a k b H1 d1 e S q (PostR.at e p)
  | ex c x k => exact p
  | no => exact p
theorem PostR.mono {r : Rs α} {rel rel1 : Hp → Gh → β → α → Prop} {Q Q1 : β → Hp → Prop} (p : PostR V0 W g σ t H r rel Q) (h : ∀ a k b H1 d1, r = .ok a k → Ext g.dk d1 H H1 → Sim V0.K V0.cl (g.at d1) H1 σ t k → rel1 H1 (g.at d1) b a → (∀ b', rel H1 (g.at d1) b' a → Q b' H1) → Q1 b H1) : PostR V0 W g σ t H r rel1 Q1 := by
  cases r with
  | ok a k => exact fun b H1 d1 e S q => h a k b H1 d1 rfl e S q fun b' r' => p b' H1 d1 e S r'
  | ex c x k => exact p
  | no => exact p
theorem PostR.opt {o : Option α} {k : Ds} {rel : Hp → Gh → β → α → Prop} {Q : β → Hp → Prop} (p : PostR V0 W g σ t H (opt o k) rel Q) : ∃ a, o = some a ∧ PostR V0 W g σ t H (.ok a k) rel Q := by
  cases o with
  | none => exact p.elim
  | some a => exact ⟨a, rfl, p⟩
/-- data that comes out, behind what was reached -/
theorem PostR.out {z : D} {k : Ds} {Q : VK} (S : Sim V0.K V0.cl g H σ t k) (p : PostR V0 W g σ t H (.ok (.d z) k) (relS' V0 t) Q) : Out V0.K H (g.Ex t) z Q := fun v H' hk r => by
  have e : Ext g.dk g.dk H H' := Ext.all hk
  have hd : DkR H' g.dk k := by
    have q := S.dkr
    revert q
    generalize g.dk = d
    cases d with
    | none => cases k <;> exact fun q => q
    | some p =>
      obtain ⟨a, l⟩ := p
      cases k with
      | none => exact fun q => q
      | some q => exact fun ⟨h0, h1, h2, h3⟩ => ⟨h0, hk _ _ h1, hk _ _ h2, h3⟩
  exact p v H' g.dk e (S.step e hd (S.tab.ext hk)) r
theorem Sim.in (S : Sim V0.K V0.cl g H σ t k) : In H (g.Ex t) := fun b => S.exs
theorem relD.sh {v : V} {x : D} {k : Ds} (S : Sim V0.K V0.cl g H σ t k) (h : relD V0 t H g v x) : Sh V0.K H (g.Ex t) v x := by
  rcases h with h | ⟨i, xs, h1, rfl, rfl⟩
  · exact .inl h
  · obtain ⟨_, _, _, vs, h2, h3⟩ := S.own i xs h1
    exact .inr ⟨_, vs, xs, rfl, rfl, h2, h3⟩
theorem relD.step {v : V} {x : D} {k : Ds} (S : Sim V0.K V0.cl g H σ t k) (e : Ext g.dk d1 H H1) (h : relD V0 t H g v x) : relD V0 t H1 (g.at d1) v x := by
  rcases h with h | h
  · exact .inl (h.mv (S.mv e))
  · exact .inr h
theorem RSl.step {v : V} {x : Sl} {k : Ds} (S : Sim V0.K V0.cl g H σ t k) (e : Ext g.dk d1 H H1) (h : RSl V0.K V0.cl H (g.Ex t) g.dk v x) : RSl V0.K V0.cl H1 ((g.at d1).Ex t) d1 v x := h.mv (S.mv e) e.da
theorem relLD.sh {v : List V} {x : List D} {k : Ds} (S : Sim V0.K V0.cl g H σ t k) (h : relLD V0 t H g v x) : ShA V0.K H (g.Ex t) v x := by
  unfold relLD at h
  induction h with
  | nil => exact .nil
  | cons r _ ih => exact .cons (relD.sh S r) ih
theorem paired_mono {α β : Type} {F F' : α → β → Prop} (f : ∀ a b, F a b → F' a b) : ∀ {l : List α} {m : List β}, Paired F l m → Paired F' l m
  | _, _, .nil => .nil
  | _, _, .cons r t => .cons (f _ _ r) (paired_mono f t)
/-! ### how a proof about an expression stands -/
structure SE (V0 : Ev) (W : WX) (X : Cx) (e : Expr) (ie : IE) : Prop where
  pe : PE X e (tEv V0 W ie)
  pd : PE X e (tEd V0 W ie)
  pt : PT X e (tEt V0 W ie)
/-- evd of what is no name of a list -/
theorem lend_none {e : IE} (h : ∀ i, e ≠ .var i) (t : Tau) : lend e t = none := by
  cases e with
  | var i => exact absurd rfl (h i)
  | _ => rfl
theorem evd_eq {G : Gx} {t : Tau} {e : IE} {k : Ds} (h : ∀ i, e ≠ .var i) : evd G t e k = data (ev G t e k) := by
  show dl t e k _ = _
  unfold dl
  rw [lend_none h]
theorem data_bind {α : Type} (r : Rs α) (f : α → Ds → Rs Sl) : data (r.bind f) = r.bind fun x k => data (f x k) := by cases r <;> rfl
theorem tst_bind {α : Type} (r : Rs α) (f : α → Ds → Rs D) : tst (r.bind f) = r.bind fun x k => tst (f x k) := by cases r <;> rfl
theorem tst_opt (o : Option Bool) (k : Ds) : tst (data (opt (o.map fun b => Sl.d (.bool b)) k)) = opt o k := by cases o <;> rfl
theorem dat_some {s : Sl} {x : D} (h : dat s = some x) : s = .d x := by
  cases s with
  | d y => cases h; rfl
  | _ => cases h
/-- from the value's reading to the one as data -/
theorem pd_of {X : Cx} {e : Expr} {ie : IE} (h : PE X e (tEv V0 W ie)) (hn : ∀ i, ie ≠ .var i) : PE X e (tEd V0 W ie) := peImp h fun σ H Q => by
  rintro ⟨g, t, k, S, p⟩
  refine ⟨g, t, k, S, ?_⟩
  have p' : PostR V0 W g σ t H (data (ev V0.G t ie k)) (relD V0 t) Q := by
    have e0 : evd V0.G t ie k = data (ev V0.G t ie k) := by
      show dl t ie k _ = _
      unfold dl
      rw [lend_none hn]
    have p1 : PostR V0 W g σ t H (evd V0.G t ie k) (relD V0 t) Q := p
    rw [e0] at p1
    exact p1
  refine PostR.bind p' fun s k1 v H1 d1 x S1 r q => ?_
  obtain ⟨y, e1, q⟩ := q.opt
  rw [dat_some e1] at r
  exact q v H1 d1 (Ext.refl _ _) S1 (.inl r)
/-- a test of any expression that is no not, and, or, if, comparison -/
theorem truD_some {x : D} {b : Bool} (h : truD x = some b) : x = .bool b := by
  cases x with
  | bool c => cases h; rfl
  | _ => cases h
theorem relD_bool {v : V} {b : Bool} (h : relD V0 t H g v (.bool b)) : v = .bl b := by
  rcases h with h | ⟨_, _, _, _, h⟩
  · exact rp_bool h
  · cases h
theorem relD_int {v : V} {b : Int} (h : relD V0 t H g v (.int b)) : v = .int b := by
  rcases h with h | ⟨_, _, _, _, h⟩
  · exact rp_int h
  · cases h
theorem pt_of {X : Cx} {e : Expr} {ie : IE} (h : PE X e (tEd V0 W ie)) (he : ∀ whole, isTrue e X.env whole = (do let v ← whole; standAt e.pos; holding [v] (truthy v))) : PT X e (tEt V0 W ie) := ptImp (pt_val h he) fun σ H Q => by
  rintro ⟨g, t, k, S, p⟩
  refine ⟨g, t, k, S, PostR.bind p fun s k1 v H1 d1 x S1 r q => ?_⟩
  obtain ⟨b, e1, q⟩ := q.opt
  rw [truD_some e1] at r
  exact ⟨b, relD_bool r, q b H1 d1 (Ext.refl _ _) S1 rfl⟩
theorem SE.mk' {X : Cx} {e : Expr} {ie : IE} (h : PE X e (tEv V0 W ie)) (hn : ∀ i, ie ≠ .var i) (he : ∀ whole, isTrue e X.env whole = (do let v ← whole; standAt e.pos; holding [v] (truthy v)) := by intro _; rfl) : SE V0 W X e ie :=
  ⟨h, pd_of h hn, pt_of (pd_of h hn) he⟩
end
end Q

namespace Q
open PySem PySem.Spec PyProof.Rows L2
section
variable {V0 : Ev} {W : WX} {X : Cx} {a b c e : Expr} {ia ib ic ie : IE} {pos : Pos}
/-- the same as evd's, spelled out -/
theorem tEd_of {e : IE} {σ : L2.St} {H : Hp} {Q : VK} {g : Gh} {t : Tau} {k : Ds} (S : Sim V0.K V0.cl g H σ t k) (p : PostR V0 W g σ t H (dl t e k (ev V0.G t e k)) (relD V0 t) Q) : tEd V0 W e σ H Q := ⟨g, t, k, S, p⟩
theorem ext0 (d : Da) (H : Hp) : Ext d d H H := Ext.refl d H
/-- a value that is data is handed on -/
theorem PostR.val {g : Gh} {σ : L2.St} {t : Tau} {H : Hp} {z : D} {k : Ds} {Q : VK} {v : V} (S : Sim V0.K V0.cl g H σ t k) (p : PostR V0 W g σ t H (.ok (.d z) k) (relS' V0 t) Q) (r : Rp V0.K H (g.Ex t) v z) : Q v H := p v H g.dk (ext0 _ _) S r
theorem pe_con {z : D} {v : V} (h : PE X e (tC v)) (r : ∀ K H Ex, Rp K H Ex v z) : PE X e (tEv V0 W (.con z)) := peImp h fun σ H Q => by
  rintro ⟨g, t, k, S, p⟩
  exact PostR.val S p (r _ _ _)
theorem var_getD {t : Tau} {i : Nat} {s : Sl} (h : varT t i = some s) : t[i]? = some (some s) := by
  unfold varT at h
  rw [List.getD_eq_getElem?_getD] at h
  cases e : t[i]? with
  | none => rw [e] at h; cases h
  | some o => rw [e] at h; exact congrArg some h
theorem pe_nm {i : Nat} (h : PE X e (tVar i)) : PE X e (tEv V0 W (.var i)) := peImp h fun σ H Q => by
  rintro ⟨g, t, k, S, p⟩
  have p' : PostR V0 W g σ t H (match varT t i with
    | some (.own _) => .no
    | some s => .ok s k
    | none => .no) (relS' V0 t) Q := p
  cases e : varT t i with
  | none => rw [e] at p'; exact p'.elim
  | some s =>
    rw [e] at p'
    have e' := var_getD e
    by_cases hs : ∃ xs, s = .own xs
    · obtain ⟨xs, rfl⟩ := hs
      exact p'.elim
    · obtain ⟨v, h1, h2⟩ := S.sl i s e' (fun xs q => hs ⟨xs, q⟩)
      refine ⟨v, h1, ?_⟩
      have p2 : PostR V0 W g σ t H (.ok s k) (relS' V0 t) Q := by
        cases s with
        | own xs => exact absurd ⟨xs, rfl⟩ hs
        | _ => exact p'
      exact p2 v H g.dk (ext0 _ _) S h2
theorem pd_nm {i : Nat} (h : PE X e (tVar i)) : PE X e (tEd V0 W (.var i)) := peImp h fun σ H Q => by
  rintro ⟨g, t, k, S, p⟩
  cases e : varT t i with
  | none =>
    have e1 : evd V0.G t (.var i) k = .no := by
      show dl t (.var i) k (ev V0.G t (.var i) k) = .no
      unfold dl lend
      simp only [ev, e]
      rfl
    have p1 : PostR V0 W g σ t H (evd V0.G t (.var i) k) (relD V0 t) Q := p
    rw [e1] at p1
    exact p1.elim
  | some s =>
    have e' := var_getD e
    cases s with
    | own xs =>
      obtain ⟨h1, _⟩ := S.own i xs e'
      refine ⟨_, h1, ?_⟩
      have e1 : evd V0.G t (.var i) k = .ok (.list xs) k := by
        show dl t (.var i) k (ev V0.G t (.var i) k) = _
        unfold dl lend
        simp only [e]
      have p1 : PostR V0 W g σ t H (evd V0.G t (.var i) k) (relD V0 t) Q := p
      rw [e1] at p1
      exact p1 _ H g.dk (ext0 _ _) S (.inr ⟨i, xs, e', rfl, rfl⟩)
    | d x =>
      obtain ⟨v, h1, h2⟩ := S.sl i _ e' (fun xs q => by cases q)
      refine ⟨v, h1, ?_⟩
      have e1 : evd V0.G t (.var i) k = .ok x k := by
        show dl t (.var i) k (ev V0.G t (.var i) k) = _
        unfold dl lend
        simp only [ev, e]
        rfl
      have p1 : PostR V0 W g σ t H (evd V0.G t (.var i) k) (relD V0 t) Q := p
      rw [e1] at p1
      exact p1 _ H g.dk (ext0 _ _) S (.inl h2)
    | _ =>
      have e1 : evd V0.G t (.var i) k = .no := by
        show dl t (.var i) k (ev V0.G t (.var i) k) = .no
        unfold dl lend
        simp only [ev, e]
        rfl
      have p1 : PostR V0 W g σ t H (evd V0.G t (.var i) k) (relD V0 t) Q := p
      rw [e1] at p1
      exact p1.elim
theorem se_nm {i : Nat} {x : Str} (h : PE X (.Name x pos) (tVar i)) : SE V0 W X (.Name x pos) (.var i) := ⟨pe_nm h, pd_nm h, pt_of (pd_nm h) (by intro _; rfl)⟩
/-- two operands -/
theorem two {f : D → D → Option D} {r : R2} {σ : L2.St} {H : Hp} {Q : VK} (hr : ∀ Ex dx dy z x y H, In H Ex → Sh V0.K H Ex x dx → Sh V0.K H Ex y dy → f dx dy = some z → Out V0.K H Ex z Q → r x y H Q)
    (h : tR V0 W (fun t k => (dl t ia k (ev V0.G t ia k)).bind fun x k => (dl t ib k (ev V0.G t ib k)).bind fun y k => opt ((f x y).map Sl.d) k) (relS' V0) σ H Q) : tOp r (tEd V0 W ia) (tEd V0 W ib) σ H Q := by
  obtain ⟨g, t, k, S, p⟩ := h
  refine tEd_of S (PostR.bind p fun x k1 v H1 d1 e1 S1 r1 p1 => ?_)
  refine tEd_of S1 (PostR.bind p1 fun y k2 w H2 d2 e2 S2 r2 p2 => ?_)
  obtain ⟨s, e3, p3⟩ := p2.opt
  obtain ⟨z, e4, rfl⟩ := map_some e3
  exact hr _ x y z v w H2 S2.in ((relD.step S1 e2 r1).sh S2) (r2.sh S2) e4 (PostR.out S2 p3)
theorem twoB {f : D → D → Option Bool} {r : R2} {σ : L2.St} {H : Hp} {Q : VK} (hr : ∀ Ex dx dy z x y H, Sh V0.K H Ex x dx → Sh V0.K H Ex y dy → f dx dy = some z → Q (.bl z) H → r x y H Q)
    (h : tR V0 W (fun t k => (dl t ia k (ev V0.G t ia k)).bind fun x k => (dl t ib k (ev V0.G t ib k)).bind fun y k => opt ((f x y).map fun b => Sl.d (.bool b)) k) (relS' V0) σ H Q) : tOp r (tEd V0 W ia) (tEd V0 W ib) σ H Q := by
  obtain ⟨g, t, k, S, p⟩ := h
  refine tEd_of S (PostR.bind p fun x k1 v H1 d1 e1 S1 r1 p1 => ?_)
  refine tEd_of S1 (PostR.bind p1 fun y k2 w H2 d2 e2 S2 r2 p2 => ?_)
  obtain ⟨s, e3, p3⟩ := p2.opt
  obtain ⟨z, e4, rfl⟩ := map_some e3
  exact hr _ x y z v w H2 ((relD.step S1 e2 r1).sh S2) (r2.sh S2) e4 (PostR.out S2 p3).bl
theorem se_bop {op : Operator} (hK : V0.K = X.K) (ha : SE V0 W X a ia) (hb : SE V0 W X b ib) : SE V0 W X (.BinOp a op b pos) (.bop op ia ib) := by
  refine SE.mk' (peImp (pe_op (op_bop op) ha.pd hb.pd) fun σ H Q h => ?_) (fun i q => by cases q)
  exact two (f := bopD op) (fun Ex dx dy z x y H i hx hy hf o => by rw [hK] at hx hy o; exact ⟨Ex, dx, dy, z, i, hx, hy, hf, o⟩) h
theorem se_idx (hK : V0.K = X.K) (hs : PlainIx b) (ha : SE V0 W X a ia) (hb : SE V0 W X b ib) : SE V0 W X (.Subscript a b pos) (.idx ia ib) := by
  refine SE.mk' (peImp (pe_ix ix_data ha.pd hb.pd hs) fun σ H Q h => ?_) (fun i q => by cases q)
  exact two (f := idxD) (fun Ex dx dy z x y H i hx hy hf o => by rw [hK] at hx hy o; exact ⟨Ex, dx, dy, z, i, hx, hy, hf, o⟩) h
theorem se_cmp {op : CmpOp} (hK : V0.K = X.K) (hu : X.A.units + 66 < cLine) (hm : behindInMarks op b = false) (ha : SE V0 W X a ia) (hb : SE V0 W X b ib) : SE V0 W X (.Compare a [op] [b] pos) (.cmp op ia ib) := by
  have h0 : PE X (.Compare a [op] [b] pos) (tEv V0 W (.cmp op ia ib)) := peImp (pe_cmpR (op_cmp hu op) ha.pd hb.pd hm) fun σ H Q h =>
    twoB (f := cmpD op) (fun Ex dx dy z x y H hx hy hf o => by rw [hK] at hx hy; exact ⟨Ex, dx, dy, z, hx, hy, hf, o⟩) h
  refine ⟨h0, pd_of h0 (fun i q => by cases q), ptImp (pt_cmpR (op_cmp hu op) ha.pd hb.pd hm) fun σ H Q h => ?_⟩
  obtain ⟨g, t, k, S, p⟩ := h
  have e0 : tst (evd V0.G t (.cmp op ia ib) k) = ((dl t ia k (ev V0.G t ia k)).bind fun x k => (dl t ib k (ev V0.G t ib k)).bind fun y k => opt (cmpD op x y) k) := by
    rw [evd_eq (fun i q => by cases q)]
    simp only [ev, data_bind, tst_bind, tst_opt]
  have p1 : PostR V0 W g σ t H (tst (evd V0.G t (.cmp op ia ib) k)) relB' Q := p
  rw [e0] at p1
  refine tEd_of S (PostR.bind p1 fun x k1 v H1 d1 e1 S1 r1 p1 => ?_)
  refine tEd_of S1 (PostR.bind p1 fun y k2 w H2 d2 e2 S2 r2 p2 => ?_)
  obtain ⟨z, e3, p3⟩ := p2.opt
  have h1 := (relD.step S1 e2 r1).sh S2
  have h2 := r2.sh S2
  rw [hK] at h1 h2
  exact ⟨_, x, y, z, h1, h2, e3, z, rfl, p3 z H2 d2 (ext0 _ _) S2 rfl⟩
end
end Q

namespace Q
open PySem PySem.Spec PyProof.Rows L2
section
variable {V0 : Ev} {W : WX} {X : Cx} {a b c e : Expr} {ia ib ic ie : IE} {pos : Pos}
theorem tEt_of {e : IE} {σ : L2.St} {H : Hp} {Q : Bool → Hp → Prop} {g : Gh} {t : Tau} {k : Ds} (S : Sim V0.K V0.cl g H σ t k) (p : PostR V0 W g σ t H (tst (dl t e k (ev V0.G t e k))) relB' Q) : tEt V0 W e σ H Q := ⟨g, t, k, S, p⟩
theorem tEv_of {e : IE} {σ : L2.St} {H : Hp} {Q : VK} {g : Gh} {t : Tau} {k : Ds} (S : Sim V0.K V0.cl g H σ t k) (p : PostR V0 W g σ t H (ev V0.G t e k) (relS' V0 t) Q) : tEv V0 W e σ H Q := ⟨g, t, k, S, p⟩
/-- from a test in r: its truth first -/
theorem post_tst {γ δ : Type} {g : Gh} {σ : L2.St} {t : Tau} {H : Hp} {r : Rs D} {f : Bool → Ds → Rs γ} {rel : Hp → Gh → δ → γ → Prop} {Q : δ → Hp → Prop} (p : PostR V0 W g σ t H (r.bind fun x k => match truD x with
    | some b => f b k
    | none => .no) rel Q) : PostR V0 W g σ t H ((tst r).bind f) rel Q := by
  have e : ((tst r).bind f) = (r.bind fun x k => match truD x with
    | some b => f b k
    | none => .no) := by
    cases r with
    | ok x k =>
      show (opt (truD x) k).bind f = _
      simp only [yQ]
      cases truD x <;> rfl
    | _ => rfl
  rw [e]; exact p
theorem se_not (ha : SE V0 W X a ia) : SE V0 W X (.UnaryOp .Not a pos) (.not_ ia) := by
  have h0 : PE X (.UnaryOp .Not a pos) (tEv V0 W (.not_ ia)) := peImp (pe_not ha.pd) fun σ H Q h => by
    obtain ⟨g, t, k, S, p⟩ := h
    refine tEd_of S (PostR.bind p fun x k1 v H1 d1 e1 S1 r1 p1 => ?_)
    obtain ⟨s, e3, p3⟩ := p1.opt
    obtain ⟨z, e4, rfl⟩ := map_some e3
    rw [truD_some e4] at r1
    exact ⟨z, relD_bool r1, (PostR.out S1 p3).bl⟩
  refine ⟨h0, pd_of h0 (fun i q => by cases q), ptImp (pt_not ha.pt) fun σ H Q h => ?_⟩
  obtain ⟨g, t, k, S, p⟩ := h
  have e0 : tst (evd V0.G t (.not_ ia) k) = (tst (dl t ia k (ev V0.G t ia k))).bind fun b k => .ok (!b) k := by
    rw [evd_eq (fun i q => by cases q)]
    simp only [ev, data_bind, tst_bind]
    generalize dl t ia k (ev V0.G t ia k) = r
    cases r with
    | ok x k1 =>
      simp only [yQ, tst]
      cases truD x <;> rfl
    | _ => rfl
  have p1 : PostR V0 W g σ t H (tst (evd V0.G t (.not_ ia) k)) relB' Q := p
  rw [e0] at p1
  exact tEt_of S (PostR.bind p1 fun x k1 v H1 d1 e1 S1 r1 p2 => by subst r1; exact p2 _ H1 d1 (ext0 _ _) S1 rfl)
theorem se_and {rest : List Expr} (ha : SE V0 W X a ia) (hb : SE V0 W X (.BoolOp .And (b :: rest) pos) ib) (hw : PW X (.BoolOp .And (b :: rest) pos) (tEt V0 W ib)) :
    SE V0 W X (.BoolOp .And (a :: b :: rest) pos) (.and_ ia ib) ∧ PW X (.BoolOp .And (a :: b :: rest) pos) (tEt V0 W (.and_ ia ib)) := by
  have h0 : PE X (.BoolOp .And (a :: b :: rest) pos) (tEv V0 W (.and_ ia ib)) := peImp (pe_and ha.pd hb.pe) fun σ H Q h => by
    obtain ⟨g, t, k, S, p⟩ := h
    refine tEd_of S (PostR.bind p fun x k1 v H1 d1 e1 S1 r1 p1 => ?_)
    cases e4 : truD x with
    | none => rw [e4] at p1; exact p1.elim
    | some z =>
      rw [e4] at p1
      rw [truD_some e4] at r1
      refine ⟨z, relD_bool r1, ?_⟩
      cases z with
      | true => exact iteT (tEv_of S1 p1)
      | false => exact iteF (PostR.out S1 p1).bl
  have e0 : ∀ t k, tst (evd V0.G t (.and_ ia ib) k) = (tst (dl t ia k (ev V0.G t ia k))).bind fun b k => if b = true then tst (data (ev V0.G t ib k)) else .ok false k := fun t k => by
    rw [evd_eq (fun i q => by cases q)]
    simp only [ev, data_bind, tst_bind]
    generalize dl t ia k (ev V0.G t ia k) = r
    cases r with
    | ok x k1 =>
      simp only [yQ, tst]
      cases truD x with
      | none => rfl
      | some z => cases z <;> rfl
    | _ => rfl
  have hw0 : PW X (.BoolOp .And (a :: b :: rest) pos) (tEt V0 W (.and_ ia ib)) := pwImp (pw_and ha.pt hw) fun σ H Q h => by
    obtain ⟨g, t, k, S, p⟩ := h
    have p1 : PostR V0 W g σ t H (tst (evd V0.G t (.and_ ia ib) k)) relB' Q := p
    rw [e0] at p1
    refine tEt_of S (PostR.bind p1 fun x k1 v H1 d1 e1 S1 r1 p2 => ?_)
    subst r1
    cases v with
    | true =>
      refine iteT ⟨_, t, k1, S1, ?_⟩
      have p3 : PostR V0 W (g.at d1) σ t H1 (tst (data (ev V0.G t ib k1))) relB' Q := p2
      by_cases hn : ∃ i, ib = .var i
      · obtain ⟨i, rfl⟩ := hn
        show PostR V0 W (g.at d1) σ t H1 (tst (dl t (.var i) k1 (ev V0.G t (.var i) k1))) relB' Q
        unfold dl
        cases hl : lend (.var i) t with
        | none => exact p3
        | some x =>
          have e5 : ev V0.G t (.var i) k1 = .no := by
            unfold lend at hl
            simp only [ev]
            cases hv : varT t i with
            | none => rfl
            | some s => cases s with
              | own xs => rfl
              | _ => simp only [hv] at hl; cases hl
          rw [e5] at p3
          exact p3.elim
      · have e6 : evd V0.G t ib k1 = data (ev V0.G t ib k1) := evd_eq fun i q => hn ⟨i, q⟩
        show PostR V0 W (g.at d1) σ t H1 (tst (evd V0.G t ib k1)) relB' Q
        rw [e6]; exact p3
    | false => exact iteF (p2 _ H1 d1 (ext0 _ _) S1 rfl)
  exact ⟨⟨h0, pd_of h0 (fun i q => by cases q), hw0.pt⟩, hw0⟩
theorem se_or {rest : List Expr} (ha : SE V0 W X a ia) (hb : SE V0 W X (.BoolOp .Or (b :: rest) pos) ib) (hw : PW X (.BoolOp .Or (b :: rest) pos) (tEt V0 W ib)) :
    SE V0 W X (.BoolOp .Or (a :: b :: rest) pos) (.or_ ia ib) ∧ PW X (.BoolOp .Or (a :: b :: rest) pos) (tEt V0 W (.or_ ia ib)) := by
  have h0 : PE X (.BoolOp .Or (a :: b :: rest) pos) (tEv V0 W (.or_ ia ib)) := peImp (pe_or ha.pd hb.pe) fun σ H Q h => by
    obtain ⟨g, t, k, S, p⟩ := h
    refine tEd_of S (PostR.bind p fun x k1 v H1 d1 e1 S1 r1 p1 => ?_)
    cases e4 : truD x with
    | none => rw [e4] at p1; exact p1.elim
    | some z =>
      rw [e4] at p1
      rw [truD_some e4] at r1
      refine ⟨z, relD_bool r1, ?_⟩
      cases z with
      | true => exact iteT (PostR.out S1 p1).bl
      | false => exact iteF (tEv_of S1 p1)
  have e0 : ∀ t k, tst (evd V0.G t (.or_ ia ib) k) = (tst (dl t ia k (ev V0.G t ia k))).bind fun b k => if b = true then .ok true k else tst (data (ev V0.G t ib k)) := fun t k => by
    rw [evd_eq (fun i q => by cases q)]
    simp only [ev, data_bind, tst_bind]
    generalize dl t ia k (ev V0.G t ia k) = r
    cases r with
    | ok x k1 =>
      simp only [yQ, tst]
      cases truD x with
      | none => rfl
      | some z => cases z <;> rfl
    | _ => rfl
  have hw0 : PW X (.BoolOp .Or (a :: b :: rest) pos) (tEt V0 W (.or_ ia ib)) := pwImp (pw_or ha.pt hw) fun σ H Q h => by
    obtain ⟨g, t, k, S, p⟩ := h
    have p1 : PostR V0 W g σ t H (tst (evd V0.G t (.or_ ia ib) k)) relB' Q := p
    rw [e0] at p1
    refine tEt_of S (PostR.bind p1 fun x k1 v H1 d1 e1 S1 r1 p2 => ?_)
    subst r1
    cases v with
    | false =>
      refine iteF ⟨_, t, k1, S1, ?_⟩
      have p3 : PostR V0 W (g.at d1) σ t H1 (tst (data (ev V0.G t ib k1))) relB' Q := p2
      by_cases hn : ∃ i, ib = .var i
      · obtain ⟨i, rfl⟩ := hn
        show PostR V0 W (g.at d1) σ t H1 (tst (dl t (.var i) k1 (ev V0.G t (.var i) k1))) relB' Q
        unfold dl
        cases hl : lend (.var i) t with
        | none => exact p3
        | some x =>
          have e5 : ev V0.G t (.var i) k1 = .no := by
            unfold lend at hl
            simp only [ev]
            cases hv : varT t i with
            | none => rfl
            | some s => cases s with
              | own xs => rfl
              | _ => simp only [hv] at hl; cases hl
          rw [e5] at p3
          exact p3.elim
      · have e6 : evd V0.G t ib k1 = data (ev V0.G t ib k1) := evd_eq fun i q => hn ⟨i, q⟩
        show PostR V0 W (g.at d1) σ t H1 (tst (evd V0.G t ib k1)) relB' Q
        rw [e6]; exact p3
    | true => exact iteT (p2 _ H1 d1 (ext0 _ _) S1 rfl)
  exact ⟨⟨h0, pd_of h0 (fun i q => by cases q), hw0.pt⟩, hw0⟩
theorem se_one {op : PySem.BoolOp} (ha : SE V0 W X a ia) : SE V0 W X (.BoolOp op [a] pos) ia ∧ PW X (.BoolOp op [a] pos) (tEt V0 W ia) := by
  have hw : PW X (.BoolOp op [a] pos) (tEt V0 W ia) := by
    cases op with
    | And => exact pw_and1 ha.pt
    | Or => exact pw_or1 ha.pt
  exact ⟨⟨pe_one ha.pe, pe_one ha.pd, hw.pt⟩, hw⟩
theorem if_isTrue {X : Cx} {t u : TT} {tc : TT} (hc : PT X c tc) (ha : PT X a t) (hb : PT X b u) : PT X (.IfExp c a b pos) (fun σ H Q => tc σ H fun x H1 => if x = true then t σ H1 Q else u σ H1 Q) := by
  refine ⟨fun pins s σ H Q I h => ?_⟩
  show wpAny _ _ (do if ← isTrue c X.env (eval c X.env) then isTrue a X.env (eval a X.env) else isTrue b X.env (eval b X.env)) _ _ _
  refine wpAny_bind (thn (hc.run pins s σ H _ I h) fun x s1 ⟨H1, I1, q1⟩ => ?_)
  cases x with
  | true => exact ha.run pins s1 σ H1 Q I1 q1
  | false => exact hb.run pins s1 σ H1 Q I1 q1
theorem se_ite (hc : SE V0 W X c ic) (ha : SE V0 W X a ia) (hb : SE V0 W X b ib) : SE V0 W X (.IfExp c a b pos) (.ite ic ia ib) := by
  have sp : ∀ {γ δ : Type} {g : Gh} {σ : L2.St} {t : Tau} {k : Ds} {H : Hp} {f1 f2 : Ds → Rs γ} {rel : Hp → Gh → δ → γ → Prop} {Q : δ → Hp → Prop}, PostR V0 W g σ t H ((dl t ic k (ev V0.G t ic k)).bind fun x k => match truD x with
      | some true => f1 k
      | some false => f2 k
      | none => .no) rel Q → PostR V0 W g σ t H ((tst (dl t ic k (ev V0.G t ic k))).bind fun b k => if b = true then f1 k else f2 k) rel Q := by
    intro γ δ g σ t k H f1 f2 rel Q p
    refine post_tst ?_
    have e : ∀ x k, (match truD x with
      | some b => if b = true then f1 k else f2 k
      | none => (.no : Rs γ)) = (match truD x with
      | some true => f1 k
      | some false => f2 k
      | none => .no) := fun x k => by
      cases truD x with
      | none => rfl
      | some z => cases z <;> rfl
    simp only [e]; exact p
  have h0 : PE X (.IfExp c a b pos) (tEv V0 W (.ite ic ia ib)) := peImp (pe_ifExp hc.pt ha.pe hb.pe) fun σ H Q h => by
    obtain ⟨g, t, k, S, p⟩ := h
    refine tEt_of S (PostR.bind (sp p) fun x k1 v H1 d1 e1 S1 r1 p1 => ?_)
    subst r1
    cases v with
    | true => exact iteT (tEv_of S1 p1)
    | false => exact iteF (tEv_of S1 p1)
  refine ⟨h0, pd_of h0 (fun i q => by cases q), ptImp (if_isTrue hc.pt ha.pt hb.pt) fun σ H Q h => ?_⟩
  obtain ⟨g, t, k, S, p⟩ := h
  have p1 : PostR V0 W g σ t H (tst (evd V0.G t (.ite ic ia ib) k)) relB' Q := p
  have e0 : tst (evd V0.G t (.ite ic ia ib) k) = ((dl t ic k (ev V0.G t ic k)).bind fun x k => match truD x with
      | some true => tst (data (ev V0.G t ia k))
      | some false => tst (data (ev V0.G t ib k))
      | none => .no) := by
    rw [evd_eq (fun i q => by cases q)]
    simp only [ev, data_bind, tst_bind]
    congr 1
    funext x k1
    cases truD x with
    | none => rfl
    | some z => cases z <;> rfl
  rw [e0] at p1
  have lendT : ∀ {i : IE} {g : Gh} {k1 : Ds} {H1 : Hp}, Sim V0.K V0.cl g H1 σ t k1 → PostR V0 W g σ t H1 (tst (data (ev V0.G t i k1))) relB' Q → tEt V0 W i σ H1 Q := by
    intro ib g k1 H1 S1 p3
    refine ⟨_, t, k1, S1, ?_⟩
    by_cases hn : ∃ i, ib = .var i
    · obtain ⟨i, rfl⟩ := hn
      show PostR V0 W g σ t H1 (tst (dl t (.var i) k1 (ev V0.G t (.var i) k1))) relB' Q
      unfold dl
      cases hl : lend (.var i) t with
      | none => exact p3
      | some x =>
        have e5 : ev V0.G t (.var i) k1 = .no := by
          unfold lend at hl
          simp only [ev]
          cases hv : varT t i with
          | none => rfl
          | some s => cases s with
            | own xs => rfl
            | _ => simp only [hv] at hl; cases hl
        rw [e5] at p3
        exact p3.elim
    · have e6 : evd V0.G t ib k1 = data (ev V0.G t ib k1) := evd_eq fun i q => hn ⟨i, q⟩
      show PostR V0 W g σ t H1 (tst (evd V0.G t ib k1)) relB' Q
      rw [e6]; exact p3
  refine tEt_of S (PostR.bind (sp p1) fun x k1 v H1 d1 e1 S1 r1 p2 => ?_)
  subst r1
  cases v with
  | true => exact iteT (lendT S1 p2)
  | false => exact iteF (lendT S1 p2)
theorem se_neg (ha : SE V0 W X a ia) : SE V0 W X (.UnaryOp .USub a pos) (.neg ia) := by
  refine SE.mk' (peImp (pe_un un_neg ha.pd) fun σ H Q h => ?_) (fun i q => by cases q)
  obtain ⟨g, t, k, S, p⟩ := h
  refine tEd_of S (PostR.bind p fun x k1 v H1 d1 e1 S1 r1 p1 => ?_)
  obtain ⟨s, e3, p3⟩ := p1.opt
  obtain ⟨z, e4, rfl⟩ := map_some e3
  cases x with
  | int i => cases e4; exact ⟨i, relD_int r1, (PostR.out S1 p3).int⟩
  | _ => cases e4
theorem se_chain {o p : CmpOp} (hK : V0.K = X.K) (hu : X.A.units + 66 < cLine) (hm : lastMarks [o, p] [b, c] = false) (ha : SE V0 W X a ia) (hb : SE V0 W X b ib) (hc : SE V0 W X c ic) : SE V0 W X (.Compare a [o, p] [b, c] pos) (.chain o p ia ib ic) := by
  have key : ∀ {g : Gh} {σ : L2.St} {t : Tau} {k : Ds} {H : Hp} {Q : Bool → Hp → Prop}, Sim V0.K V0.cl g H σ t k → PostR V0 W g σ t H ((dl t ia k (ev V0.G t ia k)).bind fun x k => (dl t ib k (ev V0.G t ib k)).bind fun y k => match cmpD o x y with
      | some true => (dl t ic k (ev V0.G t ic k)).bind fun z k => opt (cmpD p y z) k
      | some false => .ok false k
      | none => .no) relB' Q → tChain (rC X.K (cmpD o)) (rC X.K (cmpD p)) (tEd V0 W ia) (tEd V0 W ib) (tEd V0 W ic) σ H (fun v H' => ∃ b, v = .bl b ∧ Q b H') := by
    intro g σ t k H Q S q
    refine tEd_of S (PostR.bind q fun x k1 v H1 d1 e1 S1 r1 p1 => ?_)
    refine tEd_of S1 (PostR.bind p1 fun y k2 w H2 d2 e2 S2 r2 p2 => ?_)
    have h1 := (relD.step S1 e2 r1).sh S2
    have h2 := r2.sh S2
    rw [hK] at h1 h2
    cases e5 : cmpD o x y with
    | none => rw [e5] at p2; exact p2.elim
    | some z =>
      rw [e5] at p2
      refine ⟨_, x, y, z, h1, h2, e5, z, rfl, ?_⟩
      cases z with
      | true =>
        refine iteT (tEd_of S2 (PostR.bind p2 fun u k3 w3 H3 d3 e3 S3 r3 p3 => ?_))
        obtain ⟨z2, e6, p4⟩ := p3.opt
        have h3 := (relD.step S2 e3 r2).sh S3
        have h4 := r3.sh S3
        rw [hK] at h3 h4
        exact ⟨_, y, u, z2, h3, h4, e6, z2, rfl, p4 z2 H3 d3 (ext0 _ _) S3 rfl⟩
      | false => exact iteF ⟨false, rfl, p2 false H2 d2 (ext0 _ _) S2 rfl⟩
  have h0 : PE X (.Compare a [o, p] [b, c] pos) (tEv V0 W (.chain o p ia ib ic)) := peImp (L2.pe_chain (op_cmp hu o) (op_cmp hu p) ha.pd hb.pd hc.pd hm) fun σ H Q h => by
    obtain ⟨g, t, k, S, q⟩ := h
    have q1 : PostR V0 W g σ t H (ev V0.G t (.chain o p ia ib ic) k) (relS' V0 t) Q := q
    have e0 : ev V0.G t (.chain o p ia ib ic) k = ((dl t ia k (ev V0.G t ia k)).bind fun x k => (dl t ib k (ev V0.G t ib k)).bind fun y k => match cmpD o x y with
      | some true => (dl t ic k (ev V0.G t ic k)).bind fun z k => opt (cmpD p y z) k
      | some false => .ok false k
      | none => .no).bind fun b k => .ok (.d (.bool b)) k := by
      simp only [ev]
      generalize dl t ia k (ev V0.G t ia k) = r
      cases r with
      | ok x k1 =>
        simp only [yQ]
        generalize dl t ib k1 (ev V0.G t ib k1) = r
        cases r with
        | ok y k2 =>
          simp only [yQ]
          cases cmpD o x y with
          | none => rfl
          | some z => cases z with
            | true =>
              generalize dl t ic k2 (ev V0.G t ic k2) = r
              cases r with
              | ok z k3 =>
                simp only [yQ]
                cases cmpD p y z <;> rfl
              | _ => rfl
            | false => rfl
        | _ => rfl
      | _ => rfl
    rw [e0] at q1
    have q2 := key (Q := fun b H' => Q (.bl b) H') S (PostR.bind q1 fun x k1 v H1 d1 e1 S1 r1 p1 => by subst r1; exact (PostR.out S1 p1).bl)
    have e7 : (fun v H' => ∃ b, v = V.bl b ∧ Q (.bl b) H') = fun v H' => ∃ b, v = V.bl b ∧ Q v H' := by
      funext v H'
      exact propext ⟨fun ⟨b, h1, h2⟩ => ⟨b, h1, by rw [h1]; exact h2⟩, fun ⟨b, h1, h2⟩ => ⟨b, h1, by rw [← h1]; exact h2⟩⟩
    rw [e7] at q2
    -- the reading is monotone
    obtain ⟨g1, t1, k1, S1, p1⟩ := q2
    refine ⟨g1, t1, k1, S1, PostR.mono p1 fun a1 k2 v H1 d1 _ e1 S2 r1 f1 => ?_⟩
    obtain ⟨g2, t2, k3, S3, p3⟩ := f1 v r1
    refine ⟨g2, t2, k3, S3, PostR.mono p3 fun a1 k2 w H2 d1 _ e1 S2 r1 f1 => ?_⟩
    obtain ⟨E2, x, y, z, h1, h2, e5, z', ez, f2⟩ := f1 w r1
    refine ⟨E2, x, y, z, h1, h2, e5, z', ez, ?_⟩
    cases z' with
    | true =>
      rw [if_pos rfl] at f2 ⊢
      obtain ⟨g3, t3, k4, S4, p4⟩ := f2
      refine ⟨g3, t3, k4, S4, PostR.mono p4 fun a1 k2 w H2 d1 _ e1 S2 r1 f1 => ?_⟩
      obtain ⟨E2, x, y, z, h1, h2, e5, b, eb, f3⟩ := f1 w r1
      exact ⟨E2, x, y, z, h1, h2, e5, f3⟩
    | false =>
      rw [if_neg Bool.false_ne_true] at f2 ⊢
      obtain ⟨b, eb, f3⟩ := f2
      exact f3
  refine ⟨h0, pd_of h0 (fun i q => by cases q), ptImp (L2.pt_chain (op_cmp hu o) (op_cmp hu p) ha.pd hb.pd hc.pd hm) fun σ H Q h => ?_⟩
  obtain ⟨g, t, k, S, q⟩ := h
  have q1 : PostR V0 W g σ t H (tst (evd V0.G t (.chain o p ia ib ic) k)) relB' Q := q
  have e0 : tst (evd V0.G t (.chain o p ia ib ic) k) = ((dl t ia k (ev V0.G t ia k)).bind fun x k => (dl t ib k (ev V0.G t ib k)).bind fun y k => match cmpD o x y with
      | some true => (dl t ic k (ev V0.G t ic k)).bind fun z k => opt (cmpD p y z) k
      | some false => .ok false k
      | none => .no) := by
    rw [evd_eq (fun i q => by cases q)]
    simp only [ev, data_bind, tst_bind]
    generalize dl t ia k (ev V0.G t ia k) = r
    cases r with
    | ok x k1 =>
      simp only [yQ]
      generalize dl t ib k1 (ev V0.G t ib k1) = r
      cases r with
      | ok y k2 =>
        simp only [yQ]
        cases cmpD o x y with
        | none => rfl
        | some z => cases z with
          | true =>
            simp only [data_bind, tst_bind, tst_opt]
          | false => rfl
      | _ => rfl
    | _ => rfl
  rw [e0] at q1
  exact key S q1
end
end Q

namespace Q
open PySem PySem.Spec PyProof.Rows L2
section
variable {V0 : Ev} {W : WX} {X : Cx} {a b c e : Expr} {es : List Expr} {ia ib ic ie : IE} {ies : List IE} {pos : Pos}
abbrev relR (V0 : Ev) (t : Tau) : Hp → Gh → V → D → Prop := fun H g v x => Rp V0.K H (g.Ex t) v x
abbrev tEr (V0 : Ev) (W : WX) (e : IE) : TE := tR V0 W (fun t k => data (ev V0.G t e k)) (relR V0)
abbrev tEx (V0 : Ev) (W : WX) (es : List IE) : TA := tR V0 W (fun t k => evx V0.G t es k) (relRD V0)
theorem PostR.data {g : Gh} {σ : L2.St} {t : Tau} {H : Hp} {r : Rs Sl} {Q : VK} (p : PostR V0 W g σ t H (data r) (relR V0 t) Q) : PostR V0 W g σ t H r (relS' V0 t) Q :=
  PostR.bind p fun s k1 v H1 d1 e1 S1 r1 q => by
    obtain ⟨y, e1, q⟩ := q.opt
    rw [dat_some e1] at r1
    exact q v H1 d1 (Ext.refl _ _) S1 r1
theorem SE.pr (h : SE V0 W X e ie) : PE X e (tEr V0 W ie) := peImp h.pe fun σ H Q => by
  rintro ⟨g, t, k, S, p⟩
  exact ⟨g, t, k, S, PostR.data p⟩
/-! ### lists of expressions -/
theorem pas_nil : PA X [] (tEs V0 W []) := paImp pa_nil fun σ H Q => by
  rintro ⟨g, t, k, S, p⟩
  exact p [] H g.dk (ext0 _ _) S .nil
theorem pads_nil : PA X [] (tEds V0 W []) := paImp pa_nil fun σ H Q => by
  rintro ⟨g, t, k, S, p⟩
  exact p [] H g.dk (ext0 _ _) S .nil
theorem pax_nil : PA X [] (tEx V0 W []) := paImp pa_nil fun σ H Q => by
  rintro ⟨g, t, k, S, p⟩
  exact p [] H g.dk (ext0 _ _) S .nil
theorem pas_cons (ha : SE V0 W X e ie) (hr : PA X es (tEs V0 W ies)) (hs : starEach (e :: es) X.env = (false, eval e X.env) :: starEach es X.env := by rfl) : PA X (e :: es) (tEs V0 W (ie :: ies)) :=
  paImp (pa_cons ha.pe hr hs) fun σ H Q => by
    rintro ⟨g, t, k, S, p⟩
    refine ⟨g, t, k, S, PostR.bind p fun s k1 v H1 d1 e1 S1 r1 p1 => ?_⟩
    refine ⟨_, t, k1, S1, PostR.bind p1 fun ss k2 vs H2 d2 e2 S2 r2 p2 => ?_⟩
    have r3 := RSl.step S1 e2 r1
    exact p2 _ H2 d2 (ext0 _ _) S2 (.cons r3 r2)
theorem pads_cons (ha : SE V0 W X e ie) (hr : PA X es (tEds V0 W ies)) (hs : starEach (e :: es) X.env = (false, eval e X.env) :: starEach es X.env := by rfl) : PA X (e :: es) (tEds V0 W (ie :: ies)) :=
  paImp (pa_cons ha.pd hr hs) fun σ H Q => by
    rintro ⟨g, t, k, S, p⟩
    refine ⟨g, t, k, S, PostR.bind p fun s k1 v H1 d1 e1 S1 r1 p1 => ?_⟩
    refine ⟨_, t, k1, S1, PostR.bind p1 fun ss k2 vs H2 d2 e2 S2 r2 p2 => ?_⟩
    have r3 := relD.step S1 e2 r1
    exact p2 _ H2 d2 (ext0 _ _) S2 (.cons r3 r2)
theorem pax_cons (ha : SE V0 W X e ie) (hr : PA X es (tEx V0 W ies)) (hs : starEach (e :: es) X.env = (false, eval e X.env) :: starEach es X.env := by rfl) : PA X (e :: es) (tEx V0 W (ie :: ies)) :=
  paImp (pa_cons ha.pr hr hs) fun σ H Q => by
    rintro ⟨g, t, k, S, p⟩
    refine ⟨g, t, k, S, PostR.bind p fun s k1 v H1 d1 e1 S1 r1 p1 => ?_⟩
    refine ⟨_, t, k1, S1, PostR.bind p1 fun ss k2 vs H2 d2 e2 S2 r2 p2 => ?_⟩
    exact p2 _ H2 d2 (ext0 _ _) S2 (.cons (r1.mv (S1.mv e2)) r2)
theorem lenOk_le {n : Nat} (h : lenOk n = true) : n ≤ sizeLine := of_decide_eq_true h
theorem se_tup {x1} (h : PA X es (tEx V0 W ies)) : SE V0 W X (.Tuple es x1 pos) (.tup ies) := by
  refine SE.mk' (peImp (pe_tup h) fun σ H Q => ?_) (fun i q => by cases q)
  rintro ⟨g, t, k, S, p⟩
  refine ⟨g, t, k, S, PostR.bind p fun xs k1 vs H1 d1 e1 S1 r1 p1 => ?_⟩
  by_cases hl : lenOk xs.length = true
  · rw [if_pos hl] at p1
    exact ⟨by rw [RpA.len r1]; exact lenOk_le hl, (PostR.out S1 p1).tup S1.in r1⟩
  · rw [if_neg hl] at p1; exact p1.elim
theorem se_lst (h : PA X es (tEx V0 W ies)) : SE V0 W X (.List es pos) (.lst ies) := by
  refine SE.mk' (peImp (pe_lst h) fun σ H Q => ?_) (fun i q => by cases q)
  rintro ⟨g, t, k, S, p⟩
  refine ⟨g, t, k, S, PostR.bind p fun xs k1 vs H1 d1 e1 S1 r1 p1 => ?_⟩
  by_cases hl : lenOk xs.length = true
  · rw [if_pos hl] at p1
    exact ⟨by rw [RpA.len r1]; exact lenOk_le hl, (PostR.out S1 p1).lst S1.in r1⟩
  · rw [if_neg hl] at p1; exact p1.elim
/-! ### slices -/
def tEo (V0 : Ev) (W : WX) (o : Option IE) : TO := tR V0 W (fun t k => evo V0.G t o k) fun _ _ _ x y => x = y
theorem so_none : PO X none (tEo V0 W none) := ⟨fun pins s σ H Q I h => by
  obtain ⟨g, t, k, S, p⟩ := h
  exact po_none.run pins s σ H Q I (p none H g.dk (ext0 _ _) S rfl)⟩
theorem so_some (h : SE V0 W X e ie) : PO X (some e) (tEo V0 W (some ie)) := ⟨fun pins s σ H Q I q => by
  obtain ⟨g, t, k, S, p⟩ := q
  refine (po_some h.pd).run pins s σ H Q I (tEd_of S (PostR.bind p fun x k1 v H1 d1 e1 S1 r1 p1 => ?_))
  cases x with
  | int i => exact ⟨i, relD_int r1, p1 (some i) H1 d1 (ext0 _ _) S1 rfl⟩
  | _ => exact p1.elim⟩
theorem se_slice {lo hi : Option Expr} {il ih : Option IE} {p2 : Pos} (hK : V0.K = X.K) (ha : SE V0 W X a ia) (hl : PO X lo (tEo V0 W il)) (hh : PO X hi (tEo V0 W ih)) : SE V0 W X (.Subscript a (.Slice lo hi none p2) pos) (.sl ia il ih) := by
  refine SE.mk' (peImp (pe_slice sl_data ha.pd hl hh) fun σ H Q => ?_) (fun i q => by cases q)
  rintro ⟨g, t, k, S, p⟩
  refine tEd_of S (PostR.bind p fun x k1 v H1 d1 e1 S1 r1 p1 => ?_)
  refine ⟨_, t, k1, S1, PostR.bind p1 fun l k2 l' H2 d2 e2 S2 r2 p2 => ?_⟩
  refine ⟨_, t, k2, S2, PostR.bind p2 fun h k3 h' H3 d3 e3 S3 r3 p3 => ?_⟩
  subst r2 r3
  obtain ⟨s, e4, p4⟩ := p3.opt
  obtain ⟨z, e5, rfl⟩ := map_some e4
  have q1 := ((relD.step S2 e3 (relD.step S1 e2 r1)).sh S3)
  have o := PostR.out S3 p4
  have i3 := S3.in
  rw [hK] at q1 o
  exact ⟨_, x, z, i3, q1, e5, o⟩
end
end Q

namespace Q
open PySem PySem.Spec PyProof.Rows L2
/-- room, and nothing is being shown -/
structure Rq (n : Nat) (A : Around) : Prop where
  r : Room n A
  gu : A.guards = some []
theorem Rq.mono {m n : Nat} {A : Around} (q : Rq n A) (h : m ≤ n) : Rq m A := ⟨q.r.mono h, q.gu⟩
theorem Rq.deep {n : Nat} {A : Around} (q : Rq (n + 1) A) (env : Env) : Rq n (A.deeper env) := ⟨q.r.deeper env, q.gu⟩
/-- what a def promises where nothing is being shown -/
structure Fq (P : Program) (w : World) (K : PySem.W.Frag) (mg : Str → Option Value) (base : Heap) (n : Nat) (f : Addr) (fd : FuncData) (ps : List Str) (sp : Sp) : Prop where
  len : ∀ vs H Q E, sp vs H Q E → vs.length = ps.length
  run : ∀ (B : Around) (fr : List Env) (s : Shared) (H : Hp) (ar : Args) (us : List Value) (vs : List V) (Q : VK) (E : XK), Rq n B → Env0 P w K mg base B fr s H → BindsTo s fd ar (ps.zip us) → Vals vs us → sp vs H Q E → codeAny (model P w) B (.call (.ref f) ar) (CR (L2.CX P w) fr P w H s Q E) s
theorem Fq.mono {P : Program} {w : World} {K : PySem.W.Frag} {mg : Str → Option Value} {base : Heap} {m n : Nat} {f : Addr} {fd : FuncData} {ps : List Str} {sp : Sp} (F : Fq P w K mg base m f fd ps sp) (h : m ≤ n) : Fq P w K mg base n f fd ps sp :=
  ⟨F.len, fun B fr s H ar us vs Q E q => F.run B fr s H ar us vs Q E (q.mono h)⟩
section
variable {X : Cx} {pins : List (Addr × Obj)} {σ : L2.St} {H : Hp} {s s' : Shared}
/-- back from a call -/
theorem back_from {Q : VK} {E : XK} {r : Result} (I : Inv X pins σ H s) (hx : PassesAt (L2.CX X.prog X.w) X σ E) (h : CR (L2.CX X.prog X.w) X.stack X.prog X.w H s Q E r s') : match r with
    | .ok fl => (match fl with
      | .ret u => L2.EP X pins σ Q u s'
      | _ => False)
    | .error e => X.xe e s' := by
  rcases r with e | fl
  · exact hx pins H s e s' I h
  · rcases fl with _ | _ | _ | u
    · exact h.elim
    · exact h.elim
    · exact h.elim
    · exact I.after h
theorem run_q {n : Nat} {f : Addr} {fd : FuncData} {ps : List Str} {sp : Sp} {Q : VK} {E : XK} {ar : Args} {us : List Value} {vs : List V} (F : Fq X.prog X.w X.K X.mg X.base n f fd ps sp) (hq : Rq n X.A) (hx : PassesAt (L2.CX X.prog X.w) X σ E)
    (I : Inv X pins σ H s) (hb : BindsTo s fd ar (ps.zip us)) (r : Vals vs us) (h : sp vs H Q E) : wpAny (model X.prog X.w) X.A (call (.ref f) ar.pos ar.kw) (L2.EP X pins σ Q) X.xe s := by
  have c := F.run X.A X.stack s H ar us vs Q E hq I.env0 hb r h
  refine wpAny_call (codeAny_mono c fun r s2 z => ?_)
  have b := back_from I hx z
  rcases r with e | fl
  · exact b
  · rcases fl with _ | _ | _ | u
    · exact b.elim
    · exact b.elim
    · exact b.elim
    · exact b
end
section
variable {P : Program} {w : World} {K : PySem.W.Frag} {mg : Str → Option Value} {base : Heap} {x qual : Str} {params : Arguments} {body : List Stmt} {scope : Scope} {f : Addr} {fd : FuncData}
/-- a def keeps its promise, by its body -/
theorem fq_of {N ps : List Str} {n : Nat} {sp : Sp} (F : FunD K x qual params body scope [] [] f fd) (S : FnScope N ps scope) (len : ∀ vs H Q E, sp vs H Q E → vs.length = ps.length)
    (hb : ∀ (cd : Value), fd.code = cd → ∀ (B : Around) (fr : List Env) (s : Shared) (H : Hp) (vs : List V) (Q : VK) (E : XK), Rq n (B.deeper (envOfC qual scope s.heap.objs.size f cd)) → sp vs H Q E →
      ∃ t, PSs (cxOf (L2.CX P w) P w K mg base N qual scope f cd B fr s H E) body t ∧ t { nx := fun _ H' => Q .non H', rt := Q } (L2.start N vs) H) : Fq P w K mg base (n + 1) f fd ps sp := by
  obtain ⟨oc, od, dV, kV, doc, pm, an, cd, ct, osl, rfl, lk, hc, _, _⟩ := F.ex
  refine ⟨len, fun B fr s H ar us vs Q E hr e0 bt rv hs => ?_⟩
  have hl := len _ _ _ _ hs
  have kk : ∀ b o, base.get? b = some o → s.heap.get? b = some o := fun b o e => (e0.bs b o e).1
  have KX : K.In s.heap := e0.mod.kin.keeps kk
  have hkd : ∀ y ∈ ps.zip us, scope.names.lookup y.1 = some .local ∨ (scope.names.lookup y.1 = some .cell ∧ ((cellsFrom (s.heap.objs.size + 1) scope.names []).lookup y.1).isSome = true) := fun y hy =>
    (S.par y.1 (List.of_mem_zip (show (y.1, y.2) ∈ ps.zip us from hy)).1).imp (fun q => q) fun q => ⟨q, PySem.W.cellsFrom_some _ _ _ (.inl q)⟩
  refine codeAny_call_function hr.r.depth (KX _ _ lk) rfl S.co S.gen rfl (PySem.W.codeRec_of KX hc) (bt _ _ _ _ (wpAny_newFunctionEnv_cells S.kind hkd fun env he s1 y => ?_))
  subst he
  refine ⟨(e0.mod.nolimit.keeps kk).keeps y.toInCall.keep, codeAny_func ?_⟩
  obtain ⟨t, ht, hq⟩ := hb cd rfl B fr s H vs Q E (hr.deep _) hs
  have I : Inv (cxOf (L2.CX P w) P w K mg base N qual scope f cd B fr s H E) [] (L2.start N vs) H s1 := inv_start S hr.r.hd e0 hl rv y
  refine wpAny_mono (ht.run [] s1 (L2.start N vs) H _ I hq) (fun fl s2 h2 => ?_) fun _ _ h2 => h2
  rcases fl with _ | _ | _ | u
  · obtain ⟨σ2, H2, J, q⟩ := h2
    exact ⟨.non, H2, J.os, J.bare, J.base, J.hok, rfl, q⟩
  · obtain ⟨_, _, _, q⟩ := h2; exact q.elim
  · obtain ⟨_, _, _, q⟩ := h2; exact q.elim
  · obtain ⟨v, σ2, H2, J, rv2, q⟩ := h2
    exact ⟨v, H2, J.os, J.bare, J.base, J.hok, rv2, q⟩
end
end Q

namespace Q
open PySem PySem.Spec PyProof.Rows L2
/-- what is left out, at a call: the lists of the callers, the deck -/
abbrev Ux (E0 : Addr → Prop) (d : Da) : Addr → Prop := fun b => E0 b ∨ isDk d b
section
variable (K : PySem.W.Frag) (cl : Cls) (fld : Str → Str)
/-- how a call's end lies -/
def PostC (E0 : Addr → Prop) (dk : Da) (H : Hp) (r : Rs Sl) (Q : VK) (E : XK) : Prop := match r with
  | .ok s k' => ∀ v H' d', Ext dk d' H H' → DkR H' d' k' → LamX.Tabs cl.T H' → RSl K cl H' (Ux E0 d') d' v s → Q v H'
  | .ex c x k' => ∀ v H' d' d, Ext dk d' H H' → DkR H' d' k' → LamX.Tabs cl.T H' → Rp K H' (Ux E0 d') v x → XdR H' (Ux E0 d') d (fld c) v → E (.ref (cl c)) (some d) H'
  | .no => False
def spQ (phi : List Sl → Ds → Rs Sl) (ar : Nat) : Sp := fun vs H Q E => ∃ (E0 : Addr → Prop) (dk : Da) (ss : List Sl) (k : Ds), ss.length = ar ∧ DkR H dk k ∧ LamX.Tabs cl.T H ∧ (∀ b, E0 b → H b ≠ none) ∧ (∀ b, E0 b → ¬ isDk dk b) ∧
  Paired (fun v s => RSl K cl H (Ux E0 dk) dk v s) vs ss ∧ PostC K cl fld E0 dk H (phi ss k) Q E
end
theorem spQ_len {K : PySem.W.Frag} {cl : Cls} {fld : Str → Str} {phi : List Sl → Ds → Rs Sl} {ar : Nat} {vs : List V} {H : Hp} {Q : VK} {E : XK} (h : spQ K cl fld phi ar vs H Q E) : vs.length = ar := by
  obtain ⟨E0, dk, ss, k, hl, _, _, _, _, r, _⟩ := h
  rw [Paired.length r, hl]
theorem RSl.same {K : PySem.W.Frag} {cl : Cls} {H : Hp} {Ex Ex' : Addr → Prop} {d : Da} {v : V} {s : Sl} (h : RSl K cl H Ex d v s) (i : ∀ b, Ex' b → Ex b) : RSl K cl H Ex' d v s :=
  RSl.mv (Mv.less i) (fun _ q => q) h
theorem Rp.same {K : PySem.W.Frag} {H : Hp} {Ex Ex' : Addr → Prop} {v : V} {s : D} (h : Rp K H Ex v s) (i : ∀ b, Ex' b → Ex b) : Rp K H Ex' v s :=
  Rp.mv (Mv.less i) h
/-- the lists that a caller's body keeps -/
def Gh.keep (g : Gh) (t : Tau) : Addr → Prop := fun b => g.Ex0 b ∨ ∃ (i : Nat) (xs : List D), t[i]? = some (some (.own xs)) ∧ g.ad i = b
theorem Gh.to_ux (g : Gh) (t : Tau) (d : Da) (b : Addr) : (g.at d).Ex t b ↔ Ux (g.keep t) d b := by
  constructor
  · rintro (h | h | h)
    · exact .inl (.inl h)
    · exact .inr h
    · exact .inl (.inr h)
  · rintro ((h | h) | h)
    · exact .inl h
    · exact .inr (.inr h)
    · exact .inr (.inl h)
section
variable {V0 : Ev} {W : WX} {g : Gh} {σ : L2.St} {t : Tau} {H : Hp} {k : Ds} {Q : VK}
/-- a body's wish, as a call's promise -/
theorem post_call {r : Rs Sl} (S : Sim V0.K V0.cl g H σ t k) (p : PostR V0 W g σ t H r (relS' V0 t) Q) : PostC V0.K V0.cl V0.fld (g.keep t) g.dk H r Q (WE W σ) := by
  cases r with
  | ok s k' => exact fun v H' d' e hd ht r => p v H' d' e (S.step e hd ht) (r.same fun b z => (g.to_ux t d' b).mp z)
  | ex c x k' => exact fun v H' d' d e hd ht r hx => p d H' d' v e (S.step e hd ht) (r.same fun b z => (g.to_ux t d' b).mp z) (hx.same fun b z => (g.to_ux t d' b).mp z)
  | no => exact p
theorem call_sp {phi : List Sl → Ds → Rs Sl} {ss : List Sl} {vs : List V} {ar : Nat} (S : Sim V0.K V0.cl g H σ t k) (hl : ss.length = ar) (r : Paired (fun v s => RSl V0.K V0.cl H (g.Ex t) g.dk v s) vs ss)
    (p : PostR V0 W g σ t H (phi ss k) (relS' V0 t) Q) : spQ V0.K V0.cl V0.fld phi ar vs H Q (WE W σ) := by
  refine ⟨g.keep t, g.dk, ss, k, hl, S.dkr, S.tab, fun b z => ?_, fun b z => ?_, paired_mono (fun v s q => q.same fun b z => (g.to_ux t g.dk b).mpr z) r, post_call S p⟩
  · exact S.exs ((g.to_ux t g.dk b).mpr (.inl z))
  · rcases z with z | ⟨i, xs, h1, h2⟩
    · exact S.exd b z
    · obtain ⟨_, _, h3, _⟩ := S.own i xs h1
      rw [← h2]; exact h3
end
/-! ### a def that stands -/
/-- the def d of the table keeps phi at the depth n -/
structure Fn (K : PySem.W.Frag) (cl : Cls) (fld : Str → Str) (P : Program) (w : World) (mg : Str → Option Value) (base : Heap) (n : Nat) (phi : List Sl → Ds → Rs Sl) (ps : List Str) (d : He.DefD) : Prop where
  ex : ∃ fa fd, mg d.name = some (.ref fa) ∧ FunD K d.name d.qual d.params d.body d.scope [] [] fa fd ∧ Fq P w K mg base n fa fd ps (spQ K cl fld phi ps.length)
  len : ∀ ss k, ss.length ≠ ps.length → phi ss k = .no
/-- what a context is to be -/
structure Cq (V0 : Ev) (W : WX) (X : Cx) (n : Nat) : Prop where
  K : V0.K = X.K
  calm : X.calm = true
  rq : Rq n X.A
  sys : SysM X.K
  nd : X.N.Nodup
  tk : Takes X W
  cp : V0.cl.P = X.prog
  cw : V0.cl.w = X.w
section
variable {V0 : Ev} {W : WX} {X : Cx} {n : Nat} {e : Expr} {es : List Expr} {ies : List IE} {p pos : Pos}
theorem Cq.un (C : Cq V0 W X n) : X.A.units + 66 < cLine := by have := C.rq.r.un; omega
/-- f(e, ..) -/
theorem se_call {d : He.DefD} {ps : List Str} {f : Nat} (C : Cq V0 W X n) (F : Fn X.K V0.cl V0.fld X.prog X.w X.mg X.base n (V0.G.phi f) ps d) (hg : Gl X d.name) (ha : PA X (e :: es) (tEs V0 W ies)) 
    (hb : ∀ (kV doc pm : Value) (an : Option Addr) (cdv ct : Value) (us : List Value), us.length = ps.length → bindArgs (PySem.W.fnOf d.name d.qual d.params d.body d.scope .none kV doc pm an cdv ct) ⟨us, []⟩ = pure (ps.zip us))
    (hdb : (d.name == ("__debug__" : Str)) = false := by decide) (he : starEach (e :: es) X.env = (false, eval e X.env) :: starEach es X.env := by rfl) (hpl : (backTo pos (starEach es X.env)).any (·.1) = false := by rfl) :
    SE V0 W X (.Call (.Name d.name p) (e :: es) [] pos) (.call f ies) := by
  obtain ⟨fa, fd, hm, hD, hF⟩ := F.ex
  have h0 : PE X (.Call (.Name d.name p) (e :: es) [] pos) (fun σ H Q => tEs V0 W ies σ H fun vs H1 => spQ X.K V0.cl V0.fld (V0.G.phi f) ps.length vs H1 Q (WE W σ)) := by
    refine ⟨fun pins s σ H Q I h => wpAny_Call_Name_kw (ld_glob I hg hm ?_ hdb)⟩
    refine PySem.W.callWith_K (h₀ := X.base) I.ok.mod.kin hD.kp (thn (ha.run pos pins s σ H _ I h) fun us s1 ⟨vs, H1, I1, r, q⟩ => ⟨I1.kIn, ?_⟩) he hpl
    have hlen : us.length = ps.length := by rw [← r.length]; exact spQ_len q
    exact run_q (ar := ⟨us, []⟩) hF C.rq (passAt C.tk σ) I1 (hD.bindsA hb s1 us hlen) r q
  refine SE.mk' (peImp h0 fun σ H Q => ?_) (fun i q => by cases q)
  rintro ⟨g, t, k, S, q⟩
  refine ⟨g, t, k, S, PostR.bind q fun ss k1 vs H1 d1 e1 S1 r1 q1 => ?_⟩
  have hs : ss.length = ps.length := by
    by_cases z : ss.length = ps.length
    · exact z
    · have q2 : PostR V0 W (g.at d1) σ t H1 (V0.G.phi f ss k1) (relS' V0 t) Q := q1
      rw [F.len ss k1 z] at q2
      exact q2.elim
  have z := call_sp (phi := V0.G.phi f) S1 hs r1 q1
  rw [C.K] at z
  exact z
/-- the words of a call -/
theorem pks_nil : PK X [] (tEs V0 W []) := ⟨fun ps pins s σ H Q I h => by
  obtain ⟨g, t, k, S, p⟩ := h
  exact pk_nil.run ps pins s σ H Q I (p [] H g.dk (ext0 _ _) S .nil)⟩
theorem pks_cons {nm : Option Str} {kp : Pos} {kws : List Keyword} {ie : IE} (ha : SE V0 W X e ie) (hr : PK X kws (tEs V0 W ies)) : PK X (⟨nm, e, kp⟩ :: kws) (tEs V0 W (ie :: ies)) := ⟨fun ps pins s σ H Q I h => by
  refine (pk_cons ha.pe hr).run ps pins s σ H Q I ?_
  obtain ⟨g, t, k, S, p⟩ := h
  refine ⟨g, t, k, S, PostR.bind p fun s k1 v H1 d1 e1 S1 r1 p1 => ?_⟩
  refine ⟨_, t, k1, S1, PostR.bind p1 fun ss k2 vs H2 d2 e2 S2 r2 p2 => ?_⟩
  have r3 := RSl.step S1 e2 r1
  exact p2 _ H2 d2 (ext0 _ _) S2 (.cons r3 r2)⟩
def pick {α : Type} (pm : List Nat) (xs : List α) (z : α) : List α := pm.map fun i => xs.getD i z
theorem paired_pick {α β : Type} {F : α → β → Prop} {xs : List α} {ys : List β} (r : Paired F xs ys) (z : α) (u : β) : ∀ pm : List Nat, (∀ i ∈ pm, i < xs.length) → Paired F (pick pm xs z) (pick pm ys u)
  | [], _ => .nil
  | i :: pm, h => by
    refine .cons ?_ (paired_pick r z u pm fun j hj => h j (List.mem_cons_of_mem _ hj))
    have hi := h i List.mem_cons_self
    revert hi
    clear h
    induction r generalizing i with
    | nil => intro hi; exact absurd hi (Nat.not_lt_zero _)
    | cons q _ ih => cases i with
      | zero => intro _; exact q
      | succ i => intro hi; exact ih i (Nat.lt_of_succ_lt_succ hi)
/-- f(k = e, ..), nothing by place; pm says which word each parameter has -/
theorem se_callk0 {d : He.DefD} {ps ks : List Str} {f : Nat} {kws : List Keyword} {pm : List Nat} (C : Cq V0 W X n) (F : Fn X.K V0.cl V0.fld X.prog X.w X.mg X.base n (V0.G.phi f) ps d) (hg : Gl X d.name) (ha : PK X kws (tEs V0 W ies)) (hl : pm.length = ps.length)
    (hlt : ∀ i ∈ pm, i < ps.length) (hlk : ks.length = ps.length)
    (hb : ∀ (kV doc pr : Value) (an : Option Addr) (cdv ct : Value) (us : List Value), us.length = ps.length → bindArgs (PySem.W.fnOf d.name d.qual d.params d.body d.scope .none kV doc pr an cdv ct) ⟨[], ks.zip us⟩ = pure (ps.zip (pick pm us .none)))
    (hall : (backToKw pos (keywordEach kws X.env)).all (·.1.isSome) = true := by rfl) (hks : (backToKw pos (keywordEach kws X.env)).filterMap (·.1) = ks := by rfl)
    (hdb : (d.name == ("__debug__" : Str)) = false := by decide) (hpl : ((backTo pos (starEach [] X.env)).any (·.1) || (backToKw pos (keywordEach kws X.env)).any (·.1.isNone)) = false := by rfl) :
    SE V0 W X (.Call (.Name d.name p) [] kws pos) (.callk f ies pm) := by
  obtain ⟨fa, fd, hm, hD, hF⟩ := F.ex
  have h0 : PE X (.Call (.Name d.name p) [] kws pos) (fun σ H Q => tEs V0 W ies σ H fun vs H1 => vs.length = ps.length ∧ spQ X.K V0.cl V0.fld (V0.G.phi f) ps.length (pick pm vs .non) H1 Q (WE W σ)) := by
    refine ⟨fun pins s σ H Q I h => wpAny_Call_Name_kw (ld_glob I hg hm ?_ hdb)⟩
    refine PySem.W.callWith_KW0 (h₀ := X.base) I.ok.mod.kin hD.kp hall (thn (ha.run pos pins s σ H _ I h) fun us s1 ⟨vs, H1, I1, r, hv, q⟩ => ⟨I1.kIn, ?_⟩) hpl
    rw [hks]
    have hlen : us.length = ps.length := by rw [← r.length]; exact hv
    have r2 : Vals (pick pm vs .non) (pick pm us .none) := paired_pick r .non .none pm fun i hi => by rw [hv]; exact hlt i hi
    obtain ⟨oc, od, dV, kV, doc, pr, an, cd, ct, osl, rfl, lk, hc, hdv, _⟩ := hD.ex
    have bt : BindsTo s1 (PySem.W.fnOf d.name d.qual d.params d.body d.scope dV kV doc pr an cd ct) ⟨[], ks.zip us⟩ (ps.zip (pick pm us .none)) := by
      rcases hdv with ⟨_, rfl⟩ | ⟨z, _⟩
      · exact .of_eq (hb kV doc pr an cd ct us hlen)
      · exact absurd rfl z
    exact run_q (ar := ⟨[], ks.zip us⟩) hF C.rq (passAt C.tk σ) I1 bt r2 q
  refine SE.mk' (peImp h0 fun σ H Q => ?_) (fun i q => by cases q)
  rintro ⟨g, t, k, S, q⟩
  refine ⟨g, t, k, S, PostR.bind q fun ss k1 vs H1 d1 e1 S1 r1 q1 => ?_⟩
  by_cases hs0 : ss.length = pm.length
  case neg => rw [if_neg hs0] at q1; exact q1.elim
  rw [if_pos hs0] at q1
  have hs : ss.length = ps.length := hs0.trans hl
  have r2 : Paired (fun v s => RSl V0.K V0.cl H1 ((g.at d1).Ex t) (g.at d1).dk v s) (pick pm vs .non) (pick pm ss .deck) := paired_pick r1 .non .deck pm fun i hi => by rw [Paired.length r1, hs]; exact hlt i hi
  have z := call_sp (phi := V0.G.phi f) S1 (by unfold pick; rw [List.length_map, hl]) r2 q1
  rw [C.K] at z
  exact ⟨by rw [Paired.length r1, hs], z⟩
end
end Q

namespace Q
open PySem PySem.Spec PyProof.Rows L2
section
variable {V0 : Ev} {W : WX} {X : Cx} {n : Nat} {a e : Expr} {es : List Expr} {ia : IE} {ies : List IE} {p pos : Pos}
theorem blt_read {b : Bt} (hK : V0.K = X.K) {σ : L2.St} {H : Hp} {Q : VK} (h : tEv V0 W (.blt b ies) σ H Q) : tCB (rBl X.K b) (tEds V0 W ies) σ H Q := by
  obtain ⟨g, t, k, S, p⟩ := h
  refine ⟨g, t, k, S, PostR.bind p fun xs k1 vs H1 d1 e1 S1 r1 p1 => ?_⟩
  obtain ⟨s, e2, p2⟩ := p1.opt
  obtain ⟨z, e3, rfl⟩ := map_some e2
  have o := PostR.out S1 p2
  have q := relLD.sh S1 r1
  rw [hK] at o q
  exact ⟨_, xs, z, S1.in, q, e3, o⟩
theorem cq_blt (C : Cq V0 W X n) (b : Bt) : CallR X (bltV b) (rBl X.K b) := cr_blt (fun _ => C.calm) C.rq.gu (by have := C.un; omega) C.sys
/-- a built-in function called by its name -/
theorem se_bltf {b : Bt} {x : Str} {id : String} (C : Cq V0 W X n) (hv : bltV b = .builtin id) (hb : bootBuiltins x = some (.builtin id)) (hg : Gl X x) (hm : X.mg x = none) (ha : PA X (e :: es) (tEds V0 W ies)) (hn : x ≠ "__name__" := by decide) (hdb : (x == ("__debug__" : Str)) = false := by decide)
    (he : starEach (e :: es) X.env = (false, eval e X.env) :: starEach es X.env := by rfl) (hpl : (backTo pos (starEach es X.env)).any (·.1) = false := by rfl) : SE V0 W X (.Call (.Name x p) (e :: es) [] pos) (.blt b ies) := by
  have hc := cq_blt C b
  rw [hv] at hc
  exact SE.mk' (peImp (pe_callB hc hg hm hb ha hn hdb he hpl) fun σ H Q h => blt_read C.K h) (fun i q => by cases q)
theorem se_bltt {b : Bt} {x : Str} {T : String} (C : Cq V0 W X n) (hv : bltV b = .type T) (hb : bootBuiltins x = some (.type T)) (hg : Gl X x) (hm : X.mg x = none) (ha : PA X (e :: es) (tEds V0 W ies)) (hn : x ≠ "__name__" := by decide) (hdb : (x == ("__debug__" : Str)) = false := by decide)
    (he : starEach (e :: es) X.env = (false, eval e X.env) :: starEach es X.env := by rfl) (hpl : (backTo pos (starEach es X.env)).any (·.1) = false := by rfl) : SE V0 W X (.Call (.Name x p) (e :: es) [] pos) (.blt b ies) := by
  have hc := cq_blt C b
  rw [hv] at hc
  exact SE.mk' (peImp (pe_callTy hc hg hm hb ha hn hdb he hpl) fun σ H Q h => blt_read C.K h) (fun i q => by cases q)
/-- one that the module has by from .. import -/
theorem se_bltm {b : Bt} {x : Str} {id : String} (C : Cq V0 W X n) (hv : bltV b = .builtin id) (hg : Gl X x) (hm : X.mg x = some (.builtin id)) (ha : PA X (e :: es) (tEds V0 W ies)) (hdb : (x == ("__debug__" : Str)) = false := by decide)
    (he : starEach (e :: es) X.env = (false, eval e X.env) :: starEach es X.env := by rfl) (hpl : (backTo pos (starEach es X.env)).any (·.1) = false := by rfl) : SE V0 W X (.Call (.Name x p) (e :: es) [] pos) (.blt b ies) := by
  have hc := cq_blt C b
  rw [hv] at hc
  exact SE.mk' (peImp (pe_callBfun hc hg hm ha hdb he hpl) fun σ H Q h => blt_read C.K h) (fun i q => by cases q)
/-! ### isinstance -/
def tyN : Ty → String
  | .int => "int"
  | .bool => "bool"
  | .tuple => "tuple"
  | .str => "str"
theorem kit_like {t : String} {y : Ty} (d d' : D) (q : kitB t (tyN y) = some (isiD y d')) (e : isiD y d = isiD y d') : kitB t (tyN y) = some (isiD y d) := by rw [e]; exact q
theorem sh_ty {K : PySem.W.Frag} {H : Hp} {Ex : Addr → Prop} {v : V} {d : D} (h : Sh K H Ex v d) (y : Ty) : ∃ t : String, TyX K H v (.type t) ∧ kitB t (tyN y) = some (isiD y d) := by
  cases d with
  | none => rw [sh_none h]; exact ⟨_, .base .non, by cases y <;> decide +kernel⟩
  | bool b => rw [sh_bool h]; exact ⟨"bool", .base (.bl b), kit_like _ (.bool true) (by cases y <;> decide +kernel) (by cases y <;> rfl)⟩
  | int b => rw [sh_int h]; exact ⟨"int", .base (.int b), kit_like _ (.int 0) (by cases y <;> decide +kernel) (by cases y <;> rfl)⟩
  | str b => rw [sh_str h]; exact ⟨"str", .base (.str b), kit_like _ (.str ⟨#[]⟩) (by cases y <;> decide +kernel) (by cases y <;> rfl)⟩
  | list xs =>
    refine ⟨"list", ?_, kit_like _ (.list []) (by cases y <;> decide +kernel) (by cases y <;> rfl)⟩
    rcases h with h | ⟨a, zs, ds, rfl, h2, h3, h4⟩
    · cases h with
      | lst hn hr =>
        rcases hn with ⟨q | ⟨o, q⟩, _⟩ | ⟨o, its, m, h1, h2, _⟩
        · exact .base (.lst q)
        · exact .base (.frz q)
        · exact .kList h1 h2
    · exact .base (.lst h3)
  | tuple xs =>
    refine ⟨"tuple", ?_, kit_like _ (.tuple []) (by cases y <;> decide +kernel) (by cases y <;> rfl)⟩
    rcases h with h | ⟨a, zs, ds, rfl, h2, h3, h4⟩
    · cases h with
      | tup hn hr =>
        rcases hn with ⟨q | ⟨o, q⟩, _⟩ | ⟨o, its, m, h1, h2, _⟩
        · exact .base (.tup q)
        · exact .fTuple q
        · exact .kTuple h1 h2
    · cases h2
  | dict xs =>
    refine ⟨"dict", ?_, kit_like _ (.dict []) (by cases y <;> decide +kernel) (by cases y <;> rfl)⟩
    rcases h with h | ⟨a, zs, ds, rfl, h2, h3, h4⟩
    · cases h with
      | dct h1 _ _ => exact .base (.dK h1)
    · cases h2
theorem se_isi {y : Ty} {p2 : Pos} {T : Str} (C : Cq V0 W X n) (hv : bootBuiltins T = some (.type (tyN y))) (hgT : Gl X T) (hmT : X.mg T = none) (hg : Gl X "isinstance") (hm : X.mg "isinstance" = none) (ha : SE V0 W X a ia)
    (hnT : T ≠ "__name__" := by decide) (hdT : (T == ("__debug__" : Str)) = false := by decide)
    (he : starEach (a :: [.Name T p2]) X.env = (false, eval a X.env) :: starEach [.Name T p2] X.env := by rfl) : SE V0 W X (.Call (.Name "isinstance" p) [a, .Name T p2] [] pos) (.isi y ia) := by
  have hT : PE X (.Name T p2) (tC (.ty (tyN y))) := pe_bltn hgT hmT hv rfl hnT hdT
  refine SE.mk' (peImp (pe_callB call_isi hg hm (by decide +kernel) (pa_cons ha.pd (pa_cons hT pa_nil) he) (by decide) (by decide) he rfl) fun σ H Q h => ?_) (fun i q => by cases q)
  obtain ⟨g, t, k, S, p⟩ := h
  refine tEd_of S (PostR.bind p fun x k1 v H1 d1 e1 S1 r1 p1 => ?_)
  have q := r1.sh S1
  rw [C.K] at q
  obtain ⟨ty, h1, h2⟩ := sh_ty q y
  exact ⟨v, .ty (tyN y), _, _, _, rfl, .ty _, h1, kit_ty h2, (PostR.out S1 p1).bl⟩
/-! ### [::-1] of a list -/
/-! ### the module's names -/
end
end Q

namespace Q
open PySem PySem.Spec PyProof.Rows L2
/-- J walks xs, as long as all stands but what Ch tells of -/
def ItOk (K : PySem.W.Frag) (J : It) (H : Hp) (Ch Ex : Addr → Prop) (xs : List D) : Prop := ∀ (i : Nat) (H' : Hp) (Ex' : Addr → Prop), (∀ b o, H b = some o → nt o = true → ¬ Ch b → H' b = some o) → (∀ b, H b ≠ none → H' b ≠ none) → (∀ b, Ex' b → Ex b ∨ H b = none) → In H' Ex' →
  (∀ z, xs[i]? = some z → J.go i H' ∧ ∀ v H'', J.yld i H' v H'' → (∀ b o, H' b = some o → H'' b = some o) ∧ Rp K H'' Ex' v z) ∧ (i = xs.length → J.stop i H')
/-- a list or a tuple, walked -/
def iSq (K : PySem.W.Frag) (tl : TE) : TI := fun σ H R => tl σ H fun x H1 => ∃ a, x = .ref a ∧ (((∃ xs, SqL K H1 a xs) ∧ R (Itl K a) H1) ∨ ((∃ xs, SqT K H1 a xs) ∧ R (Itt K a) H1))
section
variable {X : Cx} {tg : Expr}
theorem pi_sq {l : Expr} {tl : TE} (hl : PE X l tl) : PI X tg l (iSq X.K tl) := ⟨fun pins s σ H R I h => by
  refine thn (hl.run pins s σ H _ I h) fun v s1 ⟨x, H1, I1, r1, a, ex, q1⟩ => ?_
  subst ex
  cases r1
  have fr : ∀ b ∈ [s1.heap.objs.size], FpOk X pins H1 b := fun b hb => by
    rw [List.mem_singleton] at hb
    rw [hb]
    exact I1.fpOk (Nat.le_refl _) (I1.hok.fresh (Nat.le_refl _))
  rcases q1 with ⟨⟨xs, hq⟩, q⟩ | ⟨⟨xs, hq⟩, q⟩
  · obtain ⟨its, _, p, _⟩ := I1.list hq
    refine wpAny_pyIter_list p.isList ⟨_, _, _, _, _, rfl, ?_, turn_list a s1.heap.objs.size, ⟨_, Heap.get?_push_size _ rfl, rfl, rfl⟩, fr, q⟩
    exact I1.kept (t' := s1.toks) fun _ _ z => Heap.get?_push_of_some _ z
  · obtain ⟨its, _, p, _⟩ := I1.tuple hq
    refine wpAny_pyIter_tuple (show s1.heap.IsTuple a its.toArray from p) ⟨_, _, _, _, _, rfl, ?_, turn_tuple a s1.heap.objs.size, ⟨_, Heap.get?_push_size _ rfl, rfl, rfl⟩, fr, q⟩
    exact I1.kept (t' := s1.toks) fun _ _ z => Heap.get?_push_of_some _ z⟩
end
section
variable {K : PySem.W.Frag} {H : Hp} {Ch Ex : Addr → Prop} {a : Addr} {vs : List V} {xs : List D}
theorem RpA.step {H' : Hp} {Ex' : Addr → Prop} (r : RpA K H Ex vs xs) (c : ∀ b, Ch b → Ex b) (k : ∀ b o, H b = some o → nt o = true → ¬ Ch b → H' b = some o) (ne : ∀ b, H b ≠ none → H' b ≠ none) (o : ∀ b, Ex' b → Ex b ∨ H b = none) : RpA K H' Ex' vs xs :=
  r.mv ⟨fun b o h hn n => k b o h hn fun z => n (c b z), o, ne⟩
theorem get_of {i : Nat} {z : D} (r : RpA K H Ex vs xs) (h : xs[i]? = some z) : ∃ v, vs[i]? = some v ∧ Rp K H Ex v z := r.get' h
/-- a list: it stands while Ch changes -/
theorem it_list (c : ∀ b, Ch b → Ex b) (h : ∀ H', (∀ b o, H b = some o → nt o = true → ¬ Ch b → H' b = some o) → (∀ b, H b ≠ none → H' b ≠ none) → SqL K H' a vs) (r : RpA K H Ex vs xs) : ItOk K (Itl K a) H Ch Ex xs := fun i H' Ex' k ne o _ => by
  have r' := r.step c k ne o
  refine ⟨fun z hz => ?_, fun hl => ⟨vs, h H' k ne, by rw [r.len, hl]; exact Nat.le_refl _⟩⟩
  obtain ⟨v, h1, h2⟩ := get_of r' hz
  refine ⟨⟨vs, v, h H' k ne, h1⟩, fun v' H'' y => ?_⟩
  obtain ⟨rfl, y⟩ := y
  have e := y vs (h H'' k ne)
  rw [h1] at e
  cases e
  exact ⟨fun _ _ q => q, h2⟩
theorem it_tup (c : ∀ b, Ch b → Ex b) (h : ∀ H', (∀ b o, H b = some o → nt o = true → ¬ Ch b → H' b = some o) → (∀ b, H b ≠ none → H' b ≠ none) → SqT K H' a vs) (r : RpA K H Ex vs xs) : ItOk K (Itt K a) H Ch Ex xs := fun i H' Ex' k ne o _ => by
  have r' := r.step c k ne o
  refine ⟨fun z hz => ?_, fun hl => ⟨vs, h H' k ne, by rw [r.len, hl]; exact Nat.le_refl _⟩⟩
  obtain ⟨v, h1, h2⟩ := get_of r' hz
  refine ⟨⟨vs, v, h H' k ne, h1⟩, fun v' H'' y => ?_⟩
  obtain ⟨rfl, y⟩ := y
  have e := y vs (h H'' k ne)
  rw [h1] at e
  cases e
  exact ⟨fun _ _ q => q, h2⟩
theorem rngL_get {lo : Int} {n i : Nat} : (rngL lo n)[i]? = if i < n then some (.int (lo + (i : Nat))) else none := by
  unfold rngL
  rw [List.getElem?_map]
  by_cases h : i < n
  · rw [if_pos h, List.getElem?_range h]; rfl
  · rw [if_neg h, List.getElem?_eq_none (by simpa using Nat.le_of_not_lt h)]; rfl
theorem it_rng {lo : Int} {n : Nat} : ItOk K (Itr lo n) H Ch Ex (rngL lo n) := fun i H' Ex' k ne o _ => by
  refine ⟨fun z hz => ?_, fun hl => ?_⟩
  · rw [rngL_get] at hz
    by_cases h : i < n
    · rw [if_pos h] at hz
      cases hz
      refine ⟨h, fun v H'' y => ?_⟩
      obtain ⟨rfl, rfl⟩ := y
      exact ⟨fun _ _ q => q, .int _⟩
    · rw [if_neg h] at hz; cases hz
  · have e : (rngL lo n).length = n := by unfold rngL; simp
    rw [e] at hl
    exact Nat.le_of_eq hl.symm
end
/-- a walk in a body: W's wish, lent: lists of one's own may be walked -/
def tIt (V0 : Ev) (W : WX) (lent : Bool) (it : IT) : TI := fun σ H R => ∃ g t k, Sim V0.K V0.cl g H σ t k ∧ (lent = false → lentI t it = false) ∧ PostR V0 W g σ t H (evi V0.G t it k) (fun H1 g1 J xs => ItOk V0.K J H1 (if lent = true then isDk g1.dk else g1.Ex t) (g1.Ex t) xs) R
/-- a proof about a walk -/
structure SI (V0 : Ev) (W : WX) (X : Cx) (tg e : Expr) (it : IT) : Prop where
  pi : ∀ lent, PI X tg e (tIt V0 W lent it)
  hs : ∀ x, foldedSetIterable e X.env x = pure x
section
variable {V0 : Ev} {W : WX} {X : Cx} {n : Nat} {tg a e : Expr} {es : List Expr} {ia : IE} {ies : List IE} {p pos : Pos}
theorem piImp {e : Expr} {t t' : TI} (h : PI X tg e t) (i : ∀ σ H Q, t' σ H Q → t σ H Q) : PI X tg e t' := ⟨fun pins s σ H Q I q => h.run pins s σ H Q I (i σ H Q q)⟩
/-- what is walked: data, or a list that is lent -/
theorem sh_sq {g : Gh} {H : Hp} {σ : L2.St} {t : Tau} {k : Ds} {v : V} {x : D} {xs : List D} {lent : Bool} (S : Sim V0.K V0.cl g H σ t k) (r : relD V0 t H g v x) (hx : itemsD x = some xs) (hl : lent = false → Rp V0.K H (g.Ex t) v x) :
    ∃ a vs, v = .ref a ∧ RpA V0.K H (g.Ex t) vs xs ∧ ((∀ H', (∀ b o, H b = some o → nt o = true → ¬ (if lent = true then isDk g.dk else g.Ex t) b → H' b = some o) → (∀ b, H b ≠ none → H' b ≠ none) → SqL V0.K H' a vs) ∨
      ∀ H', (∀ b o, H b = some o → nt o = true → ¬ (if lent = true then isDk g.dk else g.Ex t) b → H' b = some o) → (∀ b, H b ≠ none → H' b ≠ none) → SqT V0.K H' a vs) := by
  have sub : ∀ b, (if lent = true then isDk g.dk else g.Ex t) b → g.Ex t b := fun b z => by
    cases lent with
    | true => exact .inr (.inl z)
    | false => exact z
  have data : Rp V0.K H (g.Ex t) v x → ∃ a vs, v = .ref a ∧ RpA V0.K H (g.Ex t) vs xs ∧ ((∀ H', (∀ b o, H b = some o → nt o = true → ¬ (if lent = true then isDk g.dk else g.Ex t) b → H' b = some o) → (∀ b, H b ≠ none → H' b ≠ none) → SqL V0.K H' a vs) ∨
      ∀ H', (∀ b o, H b = some o → nt o = true → ¬ (if lent = true then isDk g.dk else g.Ex t) b → H' b = some o) → (∀ b, H b ≠ none → H' b ≠ none) → SqT V0.K H' a vs) := fun q => by
    cases q with
    | lst n rr =>
      cases hx
      exact ⟨_, _, rfl, rr, .inl fun H' k ne => (n.mv (Ex' := g.Ex t) ⟨fun b o h hn nb => k b o h hn fun z => nb (sub b z), fun b z => .inl z, ne⟩).sq⟩
    | tup n rr =>
      cases hx
      exact ⟨_, _, rfl, rr, .inr fun H' k ne => (n.mv (Ex' := g.Ex t) ⟨fun b o h hn nb => k b o h hn fun z => nb (sub b z), fun b z => .inl z, ne⟩).sq⟩
    | _ => cases hx
  cases lent with
  | false => exact data (hl rfl)
  | true =>
    rcases r with r | ⟨i, ys, h1, rfl, rfl⟩
    · exact data r
    · have e : ys = xs := Option.some.inj hx
      subst e
      obtain ⟨_, _, h3, vs, h4, h5⟩ := S.own i ys h1
      exact ⟨_, vs, rfl, h5, .inl fun H' k _ => .of (k _ _ h4 rfl h3)⟩
theorem dl_data {t : Tau} {e : IE} {k : Ds} {r : Rs Sl} (h : isLent t e = false) : dl t e k r = data r := by
  unfold dl
  unfold isLent at h
  cases q : lend e t with
  | none => rfl
  | some y => rw [q] at h; cases h
/-- a value that is walked: data unless it may be lent -/
theorem pd_walk {lent : Bool} (ha : SE V0 W X a ia) : PE X a (fun σ H Q => ∃ g t k, Sim V0.K V0.cl g H σ t k ∧ (lent = false → isLent t ia = false) ∧ PostR V0 W g σ t H (dl t ia k (ev V0.G t ia k)) (fun H1 g1 v x => relD V0 t H1 g1 v x ∧ (lent = false → Rp V0.K H1 (g1.Ex t) v x)) Q) := by
  cases lent with
  | true =>
    refine peImp ha.pd fun σ H Q => ?_
    · rintro ⟨g, t, k, S, _, p⟩
      exact tEd_of S (PostR.mono p fun x k1 v H1 d1 _ e1 S1 r1 f => f v ⟨r1, fun z => by cases z⟩)
  | false =>
    refine peImp ha.pr fun σ H Q => ?_
    · rintro ⟨g, t, k, S, hl, p⟩
      rw [dl_data (hl rfl)] at p
      exact ⟨g, t, k, S, PostR.mono p fun x k1 v H1 d1 _ e1 S1 r1 f => f v ⟨.inl r1, fun _ => r1⟩⟩
theorem si_seq (hK : V0.K = X.K) (ha : SE V0 W X a ia) (hs : ∀ x, foldedSetIterable a X.env x = pure x := by intro _; rfl) : SI V0 W X tg a (.seq ia) := ⟨fun lent => piImp (pi_sq (pd_walk (lent := lent) ha)) fun σ H R => by
  rintro ⟨g, t, k, S, hl, p⟩
  refine ⟨g, t, k, S, hl, PostR.bind p fun x k1 v H1 d1 e1 S1 r1 p1 => ?_⟩
  obtain ⟨xs, e2, p2⟩ := p1.opt
  obtain ⟨a, vs, rfl, h2, h3⟩ := sh_sq S1 r1.1 e2 r1.2
  have sub : ∀ b, (if lent = true then isDk (g.at d1).dk else (g.at d1).Ex t) b → (g.at d1).Ex t b := fun b z => by
    cases lent with
    | true => exact .inr (.inl z)
    | false => exact z
  refine ⟨a, rfl, ?_⟩
  have h3' := h3
  rw [← hK]
  rcases h3 with h3 | h3
  · exact .inl ⟨⟨vs, h3 H1 (fun _ _ q _ _ => q) fun _ q => q⟩, p2 _ H1 d1 (ext0 _ _) S1 (it_list sub h3 h2)⟩
  · exact .inr ⟨⟨vs, h3 H1 (fun _ _ q _ _ => q) fun _ q => q⟩, p2 _ H1 d1 (ext0 _ _) S1 (it_tup sub h3 h2)⟩, hs⟩
theorem small_of {i : Int} (h : small62 i = true) : -(2 ^ 62) ≤ i ∧ i < 2 ^ 62 := by
  unfold small62 at h
  rw [decide_eq_true_iff] at h
  omega
theorem evds1 {γ : Type} {G : Gx} {t : Tau} {k : Ds} (f : List D → Ds → Rs γ) : (evds G t [ia] k).bind f = (dl t ia k (ev G t ia k)).bind fun x k => f [x] k := by
  simp only [evds]
  generalize dl t ia k (ev G t ia k) = r
  cases r <;> rfl
theorem rng_one {x : D} {zs : List D} (h : rngD [x] = some zs) : ∃ j, x = .int j ∧ small62 j = true ∧ zs = rngL 0 j.toNat := by
  cases x with
  | int j =>
    have e : (if small62 j then some (rngL 0 j.toNat) else none) = some zs := h
    by_cases hj : small62 j = true
    · rw [if_pos hj] at e; exact ⟨j, rfl, hj, (Option.some.inj e).symm⟩
    · rw [if_neg hj] at e; cases e
  | _ => cases h
theorem si_rng1 (hg : Gl X "range") (hm : X.mg "range" = none) (ha : SE V0 W X a ia) (hs : starEach [a] X.env = [(false, eval a X.env)] := by rfl) (hf : ∀ x, foldedSetIterable (.Call (.Name "range" p) [a] [] pos) X.env x = pure x := by intro _; rfl) :
    SI V0 W X tg (.Call (.Name "range" p) [a] [] pos) (.rng [ia]) := ⟨fun lent => piImp (pi_range1 hg hm (pa_cons ha.pd pa_nil hs) hs) fun σ H R => by
  rintro ⟨g, t, k, S, hl, p⟩
  have p0 : PostR V0 W g σ t H ((evds V0.G t [ia] k).bind fun xs k => opt (rngD xs) k) _ R := p
  rw [evds1] at p0
  refine ⟨g, t, k, S, PostR.bind p0 fun x k1 v H1 d1 e1 S1 r1 p1 => ?_⟩
  obtain ⟨zs, e2, p2⟩ := p1.opt
  obtain ⟨j, rfl, hj, rfl⟩ := rng_one e2
  exact ⟨j, by rw [relD_int r1], (small_of hj).1, (small_of hj).2, p2 _ H1 d1 (ext0 _ _) S1 it_rng⟩, hf⟩
end
end Q

namespace Q
open PySem PySem.Spec PyProof.Rows L2
section
variable {K : PySem.W.Frag} {cl : Cls} {g : Gh} {H H' : Hp} {σ : L2.St} {t : Tau} {k : Ds}
theorem DkR.grow {d : Da} (h : DkR H d k) (hk : ∀ b o, H b = some o → H' b = some o) : DkR H' d k := by
  cases d with
  | none => cases k <;> exact h
  | some p => cases k with
    | none => exact h
    | some q => obtain ⟨h0, h1, h2, h3⟩ := h; exact ⟨h0, hk _ _ h1, hk _ _ h2, h3⟩
theorem Sim.grow (S : Sim K cl g H σ t k) (hk : ∀ b o, H b = some o → H' b = some o) : Sim K cl g H' σ t k :=
  S.step (d' := g.dk) (Ext.all hk) (S.dkr.grow hk) (S.tab.ext hk)
/-- an address that is kept out besides -/
def Gh.hold (g : Gh) (p : Addr) : Gh := { g with Ex0 := fun b => g.Ex0 b ∨ b = p }
theorem hold_ex (g : Gh) (p b : Addr) (t : Tau) : (g.hold p).Ex t b ↔ (g.Ex t b ∨ b = p) := by
  constructor
  · rintro ((h | h) | h | h)
    · exact .inl (.inl h)
    · exact .inr h
    · exact .inl (.inr (.inl h))
    · exact .inl (.inr (.inr h))
  · rintro ((h | h | h) | h)
    · exact .inl (.inl h)
    · exact .inr (.inl h)
    · exact .inr (.inr h)
    · exact .inl (.inr h)
theorem FsR.same {K : PySem.W.Frag} {H : Hp} {Ex Ex' : Addr → Prop} {fs gs} (h : FsR K H Ex fs gs) (i : ∀ b, Ex' b → Ex b) : FsR K H Ex' fs gs := h.mv (Mv.less i)
theorem RpA.same {K : PySem.W.Frag} {H : Hp} {Ex Ex' : Addr → Prop} {fs gs} (h : RpA K H Ex fs gs) (i : ∀ b, Ex' b → Ex b) : RpA K H Ex' fs gs := h.mv (Mv.less i)
/-- a new object is laid, kept out -/
theorem Sim.held (S : Sim K cl g H σ t k) {p : Addr} {u : HO} (hp : H p = none) : Sim K cl (g.hold p) (upd H p u) σ t k := by
  have S' := S.grow (upd_keep (u := u) hp)
  have nd : ¬ isDk g.dk p := fun z => S.exs (.inr (.inl z)) hp
  have mv : Mv H (upd H p u) (g.Ex t) ((g.hold p).Ex t) := ⟨fun b o h _ _ => upd_keep hp b o h, fun b z => by
    rcases (hold_ex g p b t).mp z with z | rfl
    · exact .inl z
    · exact .inr hp, ne_keep (upd_keep hp)⟩
  refine ⟨S'.fr, S'.kept, S'.tab, fun h d E q => ?_, S'.dkr, fun b z => ?_, fun b z => ?_, S.len, fun i s h n => ?_, fun i xs h => ?_, S.inj⟩
  · obtain ⟨h1, h2, h3⟩ := S'.was h d E q
    refine ⟨h1, fun b z => ?_, h3⟩
    rcases z with z | rfl
    · exact h2 b z
    · right
      cases hh : h b with
      | none => rfl
      | some o => exact absurd hp (S.kept b (by rw [show g.H0 = h from h1]; exact some_ne hh))
  · rcases z with z | rfl
    · exact S'.ex b z
    · rw [upd_same]; exact fun q => by cases q
  · rcases z with z | rfl
    · exact S.exd b z
    · exact nd
  · obtain ⟨v, h1, h2⟩ := S.sl i s h n
    exact ⟨v, h1, h2.mv mv fun _ q => q⟩
  · obtain ⟨h1, h2, h3, vs, h4, h5⟩ := S.own i xs h
    exact ⟨h1, h2, h3, vs, upd_keep hp _ _ h4, h5.mv mv⟩
/-- what is kept out no more -/
theorem Sim.freed {p : Addr} (S : Sim K cl (g.hold p) H σ t k) : Sim K cl g H σ t k := by
  have i : ∀ b, g.Ex t b → (g.hold p).Ex t b := fun b z => (hold_ex g p b t).mpr (.inl z)
  refine ⟨S.fr, S.kept, S.tab, fun h d E q => ⟨(S.was h d E q).1, fun b z => (S.was h d E q).2.1 b (.inl z), (S.was h d E q).2.2⟩, S.dkr, fun b z => S.ex b (.inl z), fun b z => S.exd b (.inl z), S.len, fun j s h n => ?_, fun j xs h => ?_, S.inj⟩
  · obtain ⟨v, h1, h2⟩ := S.sl j s h n
    exact ⟨v, h1, h2.same i⟩
  · obtain ⟨h1, h2, h3, vs, h4, h5⟩ := S.own j xs h
    exact ⟨h1, h2, h3, vs, h4, h5.same i⟩
theorem set_get {α : Type} {l : List α} {i j : Nat} {a b : α} (h : (l.set i a)[j]? = some b) : (i = j ∧ a = b ∧ i < l.length) ∨ (i ≠ j ∧ l[j]? = some b) := by
  by_cases e : i = j
  · subst e
    by_cases hl : i < l.length
    · rw [List.getElem?_set_self hl] at h
      exact .inl ⟨rfl, Option.some.inj h, hl⟩
    · rw [List.getElem?_eq_none (by simpa using Nat.le_of_not_lt hl)] at h; cases h
  · rw [List.getElem?_set_ne e] at h
    exact .inr ⟨e, h⟩
/-- fewer lists of one's own -/
theorem own_less {t' : Tau} (h : ∀ (i : Nat) (xs : List D), t'[i]? = some (some (.own xs)) → t[i]? = some (some (.own xs))) (b : Addr) (z : g.Ex t' b) : g.Ex t b := by
  rcases z with z | z | ⟨i, xs, h1, h2⟩
  · exact .inl z
  · exact .inr (.inl z)
  · exact .inr (.inr ⟨i, xs, h i xs h1, h2⟩)
/-- a name gets a value that is no list of one's own -/
theorem Sim.put (S : Sim K cl g H σ t k) {i : Nat} {s : Sl} {v : V} (hs : ∀ xs, s ≠ .own xs) (r : RSl K cl H (g.Ex t) g.dk v s) : Sim K cl g H (σ.set i (some v)) (t.set i (some s)) k := by
  have ol : ∀ (j : Nat) (xs : List D), (t.set i (some s))[j]? = some (some (.own xs)) → t[j]? = some (some (.own xs)) ∧ i ≠ j := fun j xs h => by
    rcases set_get h with ⟨_, e, _⟩ | ⟨e, h⟩
    · exact absurd (Option.some.inj e) (hs xs)
    · exact ⟨h, e⟩
  have less : ∀ b, g.Ex (t.set i (some s)) b → g.Ex t b := fun b => own_less (fun j xs h => (ol j xs h).1) b
  refine ⟨S.fr, S.kept, S.tab, S.was, S.dkr, S.ex, S.exd, by simpa using S.len, fun j s' h n => ?_, fun j xs h => ?_, fun j l xs ys ne h1 h2 => S.inj j l xs ys ne (ol j xs h1).1 (ol l ys h2).1⟩
  · rcases set_get h with ⟨rfl, e, hl⟩ | ⟨e, h⟩
    · cases e
      exact ⟨v, by rw [List.getElem?_set_self (by rw [S.len]; exact hl)], r.same less⟩
    · obtain ⟨v', h1, h2⟩ := S.sl j s' h n
      exact ⟨v', by rw [List.getElem?_set_ne e]; exact h1, h2.same less⟩
  · obtain ⟨h', ne⟩ := ol j xs h
    obtain ⟨h1, h2, h3, vs, h4, h5⟩ := S.own j xs h'
    exact ⟨by rw [List.getElem?_set_ne ne]; exact h1, h2, h3, vs, h4, h5.same less⟩
/-- a name goes -/
theorem Sim.drop (S : Sim K cl g H σ t k) (i : Nat) : Sim K cl g H (σ.set i none) (t.set i none) k := by
  have ol : ∀ (j : Nat) (s : Sl), (t.set i none)[j]? = some (some s) → t[j]? = some (some s) ∧ i ≠ j := fun j s h => by
    rcases set_get h with ⟨_, e, _⟩ | ⟨e, h⟩
    · cases e
    · exact ⟨h, e⟩
  have less : ∀ b, g.Ex (t.set i none) b → g.Ex t b := fun b => own_less (fun j xs h => (ol j _ h).1) b
  refine ⟨S.fr, S.kept, S.tab, S.was, S.dkr, S.ex, S.exd, by simpa using S.len, fun j s' h n => ?_, fun j xs h => ?_, fun j l xs ys ne h1 h2 => S.inj j l xs ys ne (ol j _ h1).1 (ol l _ h2).1⟩
  · obtain ⟨h', ne⟩ := ol j s' h
    obtain ⟨v', h1, h2⟩ := S.sl j s' h' n
    exact ⟨v', by rw [List.getElem?_set_ne ne]; exact h1, h2.same less⟩
  · obtain ⟨h', ne⟩ := ol j _ h
    obtain ⟨h1, h2, h3, vs, h4, h5⟩ := S.own j xs h'
    exact ⟨by rw [List.getElem?_set_ne ne]; exact h1, h2, h3, vs, h4, h5.same less⟩
end
/-! ### targets -/
section
variable (V0 : Ev)
def tGt (g : Tg) : TG := fun v σ H Q => ∃ gh t k x t', Sim V0.K V0.cl gh H σ t k ∧ Rp V0.K H (gh.Ex t) v x ∧ bindG g x t = some t' ∧ ∀ σ', (∀ ws : List Nat, (∀ i ∈ g.names, i ∈ ws) → wipe σ' ws = wipe σ ws) → Sim V0.K V0.cl gh H σ' t' k → Q σ' H
def tGts (gs : List Tg) : TGs := fun vs σ H Q => ∃ gh t k xs t', Sim V0.K V0.cl gh H σ t k ∧ RpA V0.K H (gh.Ex t) vs xs ∧ bindGs gs xs t = some t' ∧ ∀ σ', (∀ ws : List Nat, (∀ i ∈ namesG gs, i ∈ ws) → wipe σ' ws = wipe σ ws) → Sim V0.K V0.cl gh H σ' t' k → Q σ' H
end
theorem pgImp {X : Cx} {tg : Expr} {t t' : TG} (h : PG X tg t) (i : ∀ v σ H Q, t' v σ H Q → t v σ H Q) : PG X tg t' := ⟨fun pins s σ H v u Q I r q => h.run pins s σ H v u Q I r (i v σ H Q q)⟩
theorem wipe_in {σ : L2.St} {i : Nat} {x : Option V} : ∀ {ws : List Nat}, i ∈ ws → wipe (σ.set i x) ws = wipe σ ws
  | [], h => by cases h
  | w :: ws, h => by
    show (wipe (σ.set i x) ws).set w none = (wipe σ ws).set w none
    by_cases e : i ∈ ws
    · rw [wipe_in e]
    · have hi : i = w := by
        rcases List.mem_cons.mp h with h | h
        · exact h
        · exact absurd h e
      subst hi
      have c : ∀ l : List Nat, i ∉ l → wipe (σ.set i x) l = (wipe σ l).set i x := by
        intro l
        induction l with
        | nil => intro _; rfl
        | cons a l ih =>
          intro hn
          show (wipe (σ.set i x) l).set a none = ((wipe σ l).set a none).set i x
          rw [ih fun m => hn (List.mem_cons_of_mem _ m), List.set_comm]
          rintro rfl
          exact hn List.mem_cons_self
      rw [c ws e, List.set_set]
section
variable {V0 : Ev} {X : Cx} {pos : Pos} {g : Tg} {gs : List Tg} {e : Expr} {es : List Expr}
theorem sg_name {i : Nat} {x : Str} (hN : X.N.Nodup) (hi : X.N[i]? = some x) (hx : Loc X.env.scope x) (hf : X.fn x = true ∨ X.env.scope.names.lookup x = some .local) : PG X (.Name x pos) (tGt V0 (.name i)) :=
  pgImp (pg_name hN hi hx hf) fun v σ H Q => by
    rintro ⟨gh, t, k, x, t', S, r, hb, f⟩
    cases hb
    exact f _ (fun ws h => wipe_in (h i (by simp [Tg.names]))) (S.put (fun xs z => by cases z) r)
theorem bindG_own {t' : Tau} : ∀ {g : Tg} {x : D} {t : Tau}, bindG g x t = some t' → ∀ (i : Nat) (xs : List D), t'[i]? = some (some (.own xs)) → t[i]? = some (some (.own xs)) := by
  intro g
  refine Tg.rec (motive_1 := fun g => ∀ {x : D} {t t' : Tau}, bindG g x t = some t' → ∀ (i : Nat) (xs : List D), t'[i]? = some (some (.own xs)) → t[i]? = some (some (.own xs)))
    (motive_2 := fun gs => ∀ {x : List D} {t t' : Tau}, bindGs gs x t = some t' → ∀ (i : Nat) (xs : List D), t'[i]? = some (some (.own xs)) → t[i]? = some (some (.own xs))) ?_ ?_ ?_ ?_ g
  · intro i x t t' h j xs hj
    cases h
    rcases set_get hj with ⟨_, e, _⟩ | ⟨_, h⟩
    · cases e
    · exact h
  · intro gs ih x t t' h
    cases x with
    | tuple ys => exact ih h
    | list ys => exact ih h
    | _ => cases h
  · intro x t t' h
    cases x with
    | nil => cases h; exact fun _ _ q => q
    | cons _ _ => cases h
  · intro g gs ih1 ih2 x t t' h
    cases x with
    | nil => cases h
    | cons y ys =>
      have h' : (bindG g y t).bind (fun t => bindGs gs ys t) = some t' := h
      cases e : bindG g y t with
      | none => rw [e] at h'; cases h'
      | some t1 =>
        rw [e] at h'
        exact fun i xs q => ih1 e i xs (ih2 h' i xs q)
/-- (a, b, ..) = a tuple or a list of that length -/
def gSeq (K : PySem.W.Frag) (n : Nat) (t : TGs) : TG := fun v σ H Q => ∃ a xs, v = .ref a ∧ (SqT K H a xs ∨ SqL K H a xs) ∧ xs.length = n ∧ t xs σ H Q
end
end Q

namespace Q
open PySem PySem.Spec PyProof.Rows L2
/-- what no exception leaves -/
abbrev Wf : WX := fun _ _ _ _ => False
/-- a new list comes out, or an exception -/
def PostF (V0 : Ev) (W : WX) (g : Gh) (σ : L2.St) (t : Tau) (H : Hp) (r : Rs Sl) (Q : VK) : Prop := match r with
  | .ok s k' => match s with
    | .d (.list xs) => ∀ p vs H' d', H p = none → Ext g.dk d' H H' → Sim V0.K V0.cl ((g.at d').hold p) H' σ t k' → H' p = some (.lst vs) → RpA V0.K H' (((g.at d').hold p).Ex t) vs xs → Q (.ref p) H'
    | _ => False
  | .ex c x k' => ∀ d H' d' v, Ext g.dk d' H H' → Sim V0.K V0.cl (g.at d') H' σ t k' → Rp V0.K H' ((g.at d').Ex t) v x → XdR H' ((g.at d').Ex t) d (V0.fld c) v → W (.ref (V0.cl c)) (some d) σ H'
  | .no => False
def tF (V0 : Ev) (W : WX) (e : IE) : TE := fun σ H Q => ∃ g t k, Sim V0.K V0.cl g H σ t k ∧ PostF V0 W g σ t H (ev V0.G t e k) Q
section
variable {V0 : Ev} {W : WX} {g : Gh} {σ : L2.St} {t : Tau} {H H1 : Hp} {k : Ds} {d1 : Da} {α : Type} {β : Type}
/-- a bind, the first part of any kind -/
theorem PostF.bind {r : Rs α} {f : α → Ds → Rs Sl} {Q : VK} {rel1 : Hp → Gh → β → α → Prop} {Q1 : β → Hp → Prop} (S : Sim V0.K V0.cl g H σ t k) (p : PostF V0 W g σ t H (r.bind f) Q)
    (h : ∀ a k1 b H1 d1, Ext g.dk d1 H H1 → Sim V0.K V0.cl (g.at d1) H1 σ t k1 → rel1 H1 (g.at d1) b a → PostF V0 W (g.at d1) σ t H1 (f a k1) Q → Q1 b H1) : PostR V0 W g σ t H r rel1 Q1 := by
  cases r with
  | ok a k0 =>
    refine fun b H1 d1 e S1 q => h a k0 b H1 d1 e S1 q ?_
    have p' : PostF V0 W g σ t H (f a k0) Q := p
    have back : ∀ b, H1 b = none → H b = none := fun b z => by
      cases q : H b with
      | none => rfl
      | some o => exact absurd z (e.ne b (some_ne q))
    revert p'
    cases f a k0 with
    | ok s k2 =>
      intro p'
      cases s with
      | d x => cases x with
        | list xs => exact fun p vs H' d' hp e2 S2 hv r2 => p' p vs H' d' (back p hp) (e.trans e2) S2 hv r2
        | _ => exact p'.elim
      | _ => exact p'.elim
    | ex c x k2 => exact fun p' d H' d' v e2 S2 r2 hx => p' d H' d' v (e.trans e2) S2 r2 hx
    | no => exact fun p' => p'.elim
  | ex c x k0 => exact p
  | no => exact p.elim
/-- a new list of known items -/
theorem PostF.lst {xs : List D} {vs : List V} {Q : VK} (S : Sim V0.K V0.cl g H σ t k) (p : PostF V0 W g σ t H (.ok (.d (.list xs)) k) Q) (r : RpA V0.K H (g.Ex t) vs xs) : ∀ q, H q = none → Q (.ref q) (upd H q (.lst vs)) := fun q hq => by
  refine p q vs _ g.dk hq (Ext.all (upd_keep hq)) (S.held hq) upd_same (r.mv ⟨fun b o h _ _ => upd_keep hq b o h, fun b z => ?_, ne_keep (upd_keep hq)⟩)
  rcases (hold_ex _ q b t).mp z with z | rfl
  · exact .inl z
  · exact .inr hq
end
section
variable {V0 : Ev} {W : WX} {X : Cx} {n : Nat} {a e : Expr} {es : List Expr} {ia ie : IE} {ies : List IE} {pos : Pos}
/-! ### tests of a comprehension -/
def tCs (V0 : Ev) (W : WX) (cs : List IE) : TT := tR V0 W (fun t k => evc V0.G t cs k) fun _ => relB'
/-! ### list comprehensions -/
def compF (G : Gx) (t : Tau) (e : IE) (g : Tg) (cs : List IE) (ws : List Nat) : D → Ds → Rs (Option D) := fun x k => match bindG g x (wipeT t ws) with
  | some t' => (evc G t' cs k).bind fun b k => if b then (data (ev G t' e k)).bind fun y k => .ok (some y) k else .ok none k
  | none => .no
end
end Q

namespace Q
open PySem PySem.Spec PyProof.Rows L2
section
variable {K : PySem.W.Frag} {cl : Cls} {g : Gh} {H H' : Hp} {σ : L2.St} {t : Tau} {k k' : Ds} {d' : Da}
end
section
variable {V0 : Ev} {W : WX} {X : Cx} {n : Nat} {elt tg iter : Expr} {ifs : List Expr} {it : IT} {ie : IE} {g : Tg} {cs : List IE} {ws : List Nat}
/-- the state of a comprehension's walk -/
structure Wc (V0 : Ev) (gh : Gh) (t : Tau) (H1 : Hp) (D : Addr) (F : Q.D → Ds → Rs (Option Q.D)) (xs ys : List Q.D) (kF : Ds) (i : Nat) (Hx : Hp) (k' : Ds) (d' : Da) (aV : List V) (aD rest : List Q.D) : Prop where
  le : i ≤ xs.length
  e : Ext gh.dk d' H1 Hx
  dk : DkR Hx d' k'
  tb : LamX.Tabs V0.cl.T Hx
  nd : ¬ isDk d' D
  hD : Hx D = some (.lst aV)
  r : RpA V0.K Hx (((gh.at d').hold D).Ex t) aV aD
  c : compL F (xs.drop i) k' = .ok rest kF
  y : aD ++ rest = ys
end
end Q

namespace Q
open PySem PySem.Spec PyProof.Rows L2
/-- from one state of a body to a later one -/
structure Stp (g : Gh) (t : Tau) (H : Hp) (g' : Gh) (t' : Tau) (H' : Hp) : Prop where
  h0 : g'.H0 = g.H0
  e0 : g'.Ex0 = g.Ex0
  dk : g'.dk = g.dk ∨ (g.dk = none ∧ ∀ b, isDk g'.dk b → g.H0 b = none)
  mv : Mv H H' (g.Ex t) (g'.Ex t')
theorem Mv.refl (H : Hp) (E : Addr → Prop) : Mv H H E E := Mv.less fun _ z => z
theorem Mv.trans {H H' H'' : Hp} {E E' E'' : Addr → Prop} (m : Mv H H' E E') (n : Mv H' H'' E' E'') : Mv H H'' E E'' := by
  refine ⟨fun b o q hn nb => n.keep b o (m.keep b o q hn nb) hn fun z => ?_, fun b z => ?_, fun b z => n.ne b (m.ne b z)⟩
  · rcases m.out b z with z | z
    · exact nb z
    · rw [q] at z; cases z
  · rcases n.out b z with z | z
    · exact m.out b z
    · by_cases nb : E b
      · exact .inl nb
      · cases q : H b with
        | none => exact .inr rfl
        | some o => exact absurd z (m.ne b (some_ne q))
theorem Stp.refl (g : Gh) (t : Tau) (H : Hp) : Stp g t H g t H := ⟨rfl, rfl, .inl rfl, .refl _ _⟩
theorem Stp.trans {g g' g'' : Gh} {t t' t'' : Tau} {H H' H'' : Hp} (a : Stp g t H g' t' H') (b : Stp g' t' H' g'' t'' H'') : Stp g t H g'' t'' H'' := by
  refine ⟨b.h0.trans a.h0, b.e0.trans a.e0, ?_, a.mv.trans b.mv⟩
  rcases b.dk with q | ⟨q1, q2⟩
  · rcases a.dk with r | ⟨r1, r2⟩
    · exact .inl (q.trans r)
    · exact .inr ⟨r1, fun b z => r2 b (by rw [← q]; exact z)⟩
  · rcases a.dk with r | ⟨r1, r2⟩
    · exact .inr ⟨by rw [← r]; exact q1, fun b z => by rw [← a.h0]; exact q2 b z⟩
    · exact .inr ⟨r1, fun b z => by rw [← a.h0]; exact q2 b z⟩
/-- what the callers keep was there at the entry -/
def Gok (g : Gh) : Prop := ∀ b, g.Ex0 b → g.H0 b ≠ none
theorem Stp.ok {g g' : Gh} {t t' : Tau} {H H' : Hp} (a : Stp g t H g' t' H') (h : Gok g) : Gok g' := fun b z => by
  rw [a.h0]; exact h b (by rw [← a.e0]; exact z)
section
variable (V0 : Ev) (W : WX)
def PostS (g : Gh) (t : Tau) (H : Hp) (r : Xs) (D : Ends) : Prop := match r with
  | .ok f t' k' => ∀ g' σ' H', Stp g t H g' t' H' → Sim V0.K V0.cl g' H' σ' t' k' → (match f with
    | .nx => D.nx σ' H'
    | .bk => D.bk σ' H'
    | .ct => D.ct σ' H'
    | .rt s => ∀ v, RSl V0.K V0.cl H' (g'.Ex t') g'.dk v s → D.rt v H')
  | .ex c x t' k' => ∀ g' σ' H' d v, Stp g t H g' t' H' → Sim V0.K V0.cl g' H' σ' t' k' → Rp V0.K H' (g'.Ex t') v x → XdR H' (g'.Ex t') d (V0.fld c) v → W (.ref (V0.cl c)) (some d) σ' H'
  | .no => False
def tX (r : Tau → Ds → Xs) : TS := fun D σ H => ∃ g t k, Gok g ∧ Sim V0.K V0.cl g H σ t k ∧ PostS V0 W g t H (r t k) D
abbrev tS (i : IS) : TS := tX V0 W fun t k => exec V0.G i t k
abbrev tSs (i : List IS) : TS := tX V0 W fun t k => execs V0.G i t k
end
section
variable {V0 : Ev} {W : WX} {g g1 : Gh} {σ σ1 : L2.St} {t t1 : Tau} {H H1 : Hp} {k k1 : Ds} {d1 : Da} {D D' : Ends} {α β : Type}
theorem PostS.at {r : Xs} (e : Stp g t H g1 t1 H1) (p : PostS V0 W g t H r D) : PostS V0 W g1 t1 H1 r D := by
  cases r with
  | ok f t' k' => exact fun g' σ' H' s S => p g' σ' H' (e.trans s) S
  | ex c x t' k' => exact fun g' σ' H' d v s S => p g' σ' H' d v (e.trans s) S
  | no => exact p
/-- behind an expression -/
theorem stp_of (S : Sim V0.K V0.cl g H σ t k) (e : Ext g.dk d1 H H1) : Stp g t H (g.at d1) t H1 := by
  refine ⟨rfl, rfl, ?_, S.mv e⟩
  rcases e.dk with q | ⟨q1, q2⟩
  · exact .inl q
  · refine .inr ⟨q1, fun b z => ?_⟩
    cases h : g.H0 b with
    | none => rfl
    | some o => exact absurd (q2 b z) (S.kept b (some_ne h))
theorem PostS.thn {r : Rs α} {f : α → Ds → Xs} {rel : Hp → Gh → β → α → Prop} {Q : β → Hp → Prop} (S : Sim V0.K V0.cl g H σ t k) (p : PostS V0 W g t H (r.thn t f) D)
    (h : ∀ a k1 b H1 d1, Ext g.dk d1 H H1 → Sim V0.K V0.cl (g.at d1) H1 σ t k1 → rel H1 (g.at d1) b a → PostS V0 W (g.at d1) t H1 (f a k1) D → Q b H1) : PostR V0 W g σ t H r rel Q := by
  cases r with
  | ok a k1 => exact fun b H1 d1 e S1 q => h a k1 b H1 d1 e S1 q (PostS.at (stp_of S e) p)
  | ex c x k1 => exact fun d H1 d1 v e S1 q hx => p (g.at d1) σ H1 d v (stp_of S e) S1 q hx
  | no => exact p
theorem PostS.bind {r : Xs} {f : Tau → Ds → Xs} (p : PostS V0 W g t H (r.bind f) D) (hg : Gok g) : PostS V0 W g t H r { D with nx := tX V0 W f D } := by
  cases r with
  | ok fl t' k' => cases fl with
    | nx => exact fun g' σ' H' s S => ⟨g', t', k', s.ok hg, S, PostS.at s p⟩
    | _ => exact p
  | ex c x t' k' => exact p
  | no => exact p
/-- a plain end -/
theorem PostS.nx (S : Sim V0.K V0.cl g1 H1 σ1 t1 k1) (s : Stp g t H g1 t1 H1) (p : PostS V0 W g t H (.ok .nx t1 k1) D) : D.nx σ1 H1 := p g1 σ1 H1 s S
end
section
variable {V0 : Ev} {W : WX} {X : Cx} {n : Nat} {a e : Expr} {es : List Expr} {ia ie : IE} {ies : List IE} {pos : Pos} {st : Stmt} {sts rest : List Stmt} {is : IS} {iss : List IS} {x : Str} {i : Nat} {pos' : Pos}
theorem ss_nil : PSs X [] (tSs V0 W []) := pssImp pss_nil fun D σ H => by
  rintro ⟨g, t, k, hg, S, p⟩
  exact PostS.nx S (.refl _ _ _) p
theorem ss_cons (h1 : PS X st (tS V0 W is)) (h2 : PSs X rest (tSs V0 W iss)) : PSs X (st :: rest) (tSs V0 W (is :: iss)) := pssImp (pss_cons h1 h2) fun D σ H => by
  rintro ⟨g, t, k, hg, S, p⟩
  have p0 : PostS V0 W g t H ((exec V0.G is t k).bind fun t k => execs V0.G iss t k) D := p
  exact ⟨g, t, k, hg, S, PostS.bind p0 hg⟩
/-- name = value -/
theorem put_nx {g : Gh} {σ : L2.St} {t : Tau} {H : Hp} {k : Ds} {D : Ends} {s : Sl} {v : V} (S : Sim V0.K V0.cl g H σ t k) (r : RSl V0.K V0.cl H (g.Ex t) g.dk v s) (p : PostS V0 W g t H (.ok .nx (t.set i (some s)) k) D) : D.nx (σ.set i (some v)) H := by
  have hs : ∀ xs, s ≠ .own xs := fun xs z => by rw [z] at r; exact r
  have S' := S.put hs r (i := i)
  refine PostS.nx S' ⟨rfl, rfl, .inl rfl, (Mv.less fun b z => own_less (fun j xs h => ?_) b z)⟩ p
  rcases set_get h with ⟨_, e, _⟩ | ⟨_, h⟩
  · exact absurd (Option.some.inj e) (hs xs)
  · exact h
theorem s_asg (hN : X.N.Nodup) (hi : X.N[i]? = some x) (hx : Loc X.env.scope x) (hf : X.fn x = true ∨ X.env.scope.names.lookup x = some .local) (he : SE V0 W X e ie) (hs : swapsWith e (some (.Name x pos')) pos.line X.env = pure false := by rfl) : PS X (.Assign [.Name x pos'] e pos) (tS V0 W (.asg i ie)) :=
  psImp (ps_set hN hi hx he.pe hs hf) fun D σ H => by
    rintro ⟨g, t, k, hg, S, p⟩
    exact ⟨g, t, k, S, PostS.thn S p fun s k1 v H1 d1 e1 S1 r1 p1 => put_nx S1 r1 p1⟩
theorem s_ret (he : SE V0 W X e ie) : PS X (.Return (some e) pos) (tS V0 W (.ret ie)) := psImp (ps_ret he.pe) fun D σ H => by
  rintro ⟨g, t, k, hg, S, p⟩
  exact ⟨g, t, k, S, PostS.thn S p fun s k1 v H1 d1 e1 S1 r1 p1 => p1 _ σ H1 (.refl _ _ _) S1 v r1⟩
theorem s_ex (he : SE V0 W X e ie) (hs : swapsWith e none pos.line X.env = pure false := by rfl) : PS X (.Expr e pos) (tS V0 W (.ex ie)) := psImp (ps_expr he.pe hs) fun D σ H => by
  rintro ⟨g, t, k, hg, S, p⟩
  exact ⟨g, t, k, S, PostS.thn S p fun s k1 v H1 d1 e1 S1 r1 p1 => PostS.nx S1 (.refl _ _ _) p1⟩
theorem s_if {c : Expr} {ic : IE} {A B : List Stmt} {iA iB : List IS} (hc : SE V0 W X c ic) (hA : PSs X A (tSs V0 W iA)) (hB : PSs X B (tSs V0 W iB)) : PS X (.If c A B pos) (tS V0 W (.ite ic iA iB)) := psImp (ps_if hc.pt hA hB) fun D σ H => by
  rintro ⟨g, t, k, hg, S, p⟩
  have p0 : PostS V0 W g t H ((tst (dl t ic k (ev V0.G t ic k))).thn t fun z k => match z with
    | true => execs V0.G iA t k
    | false => execs V0.G iB t k) D := p
  refine ⟨g, t, k, S, PostS.thn S p0 fun z k1 v H1 d1 e1 S1 r1 p1 => ?_⟩
  subst r1
  cases v with
  | true => exact iteT ⟨g.at d1, t, k1, hg, S1, p1⟩
  | false => exact iteF ⟨g.at d1, t, k1, hg, S1, p1⟩
/-- name = a new list -/
def Gh.mine (g : Gh) (i : Nat) (p : Addr) : Gh := { g with ad := fun j => if j = i then p else g.ad j }
theorem Sim.mine {K : PySem.W.Frag} {cl : Cls} {g : Gh} {H : Hp} {σ : L2.St} {t : Tau} {k : Ds} {q : Addr} {vs : List V} {xs : List D} (S : Sim K cl (g.hold q) H σ t k) (h0 : g.H0 q = none) (hv : H q = some (.lst vs)) (r : RpA K H ((g.hold q).Ex t) vs xs)
    (hne : ∀ j ys, t[j]? = some (some (.own ys)) → g.ad j ≠ q) : Sim K cl (g.mine i q) H (σ.set i (some (.ref q))) (t.set i (some (.own xs))) k := by
  have ai : (g.mine i q).ad i = q := if_pos rfl
  have aj : ∀ j, i ≠ j → (g.mine i q).ad j = g.ad j := fun j h => if_neg (Ne.symm h)
  have ol : ∀ (j : Nat) (ys : List D), (t.set i (some (.own xs)))[j]? = some (some (.own ys)) → (i = j ∧ ys = xs) ∨ (i ≠ j ∧ t[j]? = some (some (.own ys))) := fun j ys h => by
    rcases set_get h with ⟨e1, e, _⟩ | ⟨e, h⟩
    · cases e; exact .inl ⟨e1, rfl⟩
    · exact .inr ⟨e, h⟩
  have less : ∀ b, (g.mine i q).Ex (t.set i (some (.own xs))) b → (g.hold q).Ex t b := fun b z => by
    refine (hold_ex g q b t).mpr ?_
    rcases z with z | z | ⟨j, ys, h1, h2⟩
    · exact .inl (.inl z)
    · exact .inl (.inr (.inl z))
    · rcases ol j ys h1 with ⟨rfl, _⟩ | ⟨ne, h⟩
      · exact .inr (h2.symm.trans ai)
      · exact .inl (.inr (.inr ⟨j, ys, h, by rw [← h2, aj j ne]⟩))
  refine ⟨S.fr, S.kept, S.tab, fun h d E q => ⟨(S.was h d E q).1, fun b z => (S.was h d E q).2.1 b (.inl z), (S.was h d E q).2.2⟩, S.dkr, fun b z => S.ex b (.inl z), fun b z => S.exd b (.inl z), by simpa using S.len, fun j s h n => ?_, fun j ys h => ?_, fun j l ys zs ne h1 h2 => ?_⟩
  · rcases set_get h with ⟨_, e, _⟩ | ⟨e, h⟩
    · exact absurd (Option.some.inj e).symm (n xs)
    · obtain ⟨v, h1, h2⟩ := S.sl j s h n
      exact ⟨v, by rw [List.getElem?_set_ne e]; exact h1, h2.same less⟩
  · rcases set_get h with ⟨rfl, e, hl⟩ | ⟨e, h'⟩
    · cases e
      rw [ai]
      exact ⟨by rw [List.getElem?_set_self (by rw [S.len]; exact hl)], h0, S.exd q (.inr rfl), vs, hv, r.same less⟩
    · obtain ⟨h1, h2, h3, ws, h4, h5⟩ := S.own j ys h'
      rw [aj j e]
      exact ⟨by rw [List.getElem?_set_ne e]; exact h1, h2, h3, ws, h4, h5.same less⟩
  · rcases ol j ys h1 with ⟨rfl, _⟩ | ⟨n1, q1⟩
    · rcases ol l zs h2 with ⟨rfl, _⟩ | ⟨n2, q2⟩
      · exact absurd rfl ne
      · rw [ai, aj l n2]; exact (hne l zs q2).symm
    · rcases ol l zs h2 with ⟨rfl, _⟩ | ⟨n2, q2⟩
      · rw [ai, aj j n1]; exact hne j ys q1
      · rw [aj j n1, aj l n2]; exact S.inj j l ys zs ne q1 q2
/-- the reading of a new list that is stored -/
theorem own_nx {g : Gh} {σ : L2.St} {t : Tau} {H : Hp} {k : Ds} {D : Ends} (S : Sim V0.K V0.cl g H σ t k) (p : PostS V0 W g t H ((evI V0.G t true ie k).thn t fun s k => .ok .nx (t.set i (some s)) k) D) : PostF V0 W g σ t H (ev V0.G t ie k) fun v H1 => D.nx (σ.set i (some v)) H1 := by
  have p0 : PostS V0 W g t H (((ev V0.G t ie k).bind fun s k => opt (ownS s) k).thn t fun s k => .ok .nx (t.set i (some s)) k) D := p
  revert p0
  cases ev V0.G t ie k with
  | ok s k1 =>
    cases s with
    | d x => cases x with
      | list xs =>
        intro p0 q vs H1 d1 hq e1 S1 hv r
        have p1 : PostS V0 W g t H (.ok .nx (t.set i (some (.own xs))) k1) D := p0
        have h0 : g.H0 q = none := by
          cases z : g.H0 q with
          | none => rfl
          | some o => exact absurd hq (S.kept q (some_ne z))
        have S2 := S1.mine (i := i) h0 hv r fun j ys h z => by
          obtain ⟨_, _, _, ws, h4, _⟩ := S.own j ys h
          have z' : g.ad j = q := z
          rw [z', hq] at h4; cases h4
        have s1 := stp_of S e1
        refine p1 (Gh.mine (g.at d1) i q) _ H1 ⟨rfl, rfl, s1.dk, ⟨s1.mv.keep, fun b z => ?_, s1.mv.ne⟩⟩ S2
        rcases z with z | z | ⟨j, ys, h1, h2⟩
        · exact .inl (.inl z)
        · exact s1.mv.out b (.inr (.inl z))
        · rcases set_get h1 with ⟨rfl, _, _⟩ | ⟨ne, h⟩
          · refine .inr ?_
            have e : (Gh.mine (g.at d1) i q).ad i = q := if_pos rfl
            rw [← h2, e]; exact hq
          · refine .inl (.inr (.inr ⟨j, ys, h, ?_⟩))
            rw [← h2]
            exact (if_neg (Ne.symm ne)).symm
      | _ => exact fun p0 => p0.elim
    | _ => exact fun p0 => p0.elim
  | ex c x k1 => exact fun p0 d H1 d1 v e S1 r hx => p0 _ σ H1 d v (stp_of S e) S1 r hx
  | no => exact fun p0 => p0.elim
theorem s_own (hN : X.N.Nodup) (hi : X.N[i]? = some x) (hx : Loc X.env.scope x) (hf : X.fn x = true ∨ X.env.scope.names.lookup x = some .local) (he : PE X e (tF V0 W ie)) (hs : swapsWith e (some (.Name x pos')) pos.line X.env = pure false := by rfl) : PS X (.Assign [.Name x pos'] e pos) (tS V0 W (.own i ie)) :=
  psImp (ps_set hN hi hx he hs hf) fun D σ H => by
    rintro ⟨g, t, k, hg, S, p⟩
    exact ⟨g, t, k, S, own_nx S p⟩
end
end Q

namespace Q
open PySem PySem.Spec PyProof.Rows L2
section
variable {V0 : Ev} {W : WX} {X : Cx} {n : Nat} {a e : Expr} {es : List Expr} {ia ie : IE} {ies : List IE} {pos : Pos} {st : Stmt} {sts rest body : List Stmt} {is : IS} {iss ib : List IS} {x : Str} {i : Nat} {pos' : Pos}
/-! ### while -/
/-! ### for -/
theorem s_for {tg iter : Expr} {g0 : Tg} {it : IT} (hp : PassesOwn (model X.prog X.w) X.A X.env X.xe) (hc : X.calm = true) (hi : SI V0 W X tg iter it) (hgt : PG X tg (tGt V0 g0)) (hb : PSs X body (tSs V0 W ib)) : PS X (.For tg iter body [] pos) (tS V0 W (.for_ g0 it ib)) :=
  psImp (ps_for hp hc (hi.pi false) hgt hb hi.hs) fun D σ H => by
    rintro ⟨g, t, k, hg, S, p⟩
    have p0 : PostS V0 W g t H (if lentI t it then .no else (evi V0.G t it k).thn t fun xs k => forL (fun x t k => match bindG g0 x t with
      | some t => execs V0.G ib t k
      | none => .no) xs t k) D := p
    by_cases hl : lentI t it = true
    · rw [if_pos hl] at p0; exact p0.elim
    rw [if_neg hl] at p0
    refine ⟨g, t, k, S, (fun _ => by simpa using hl), PostS.thn S p0 fun xs k1 J H1 d1 e1 S1 hJ p1 => ?_⟩
    have hg1 : Gok (g.at d1) := hg
    clear p0 p hl S
    generalize g.at d1 = g1 at S1 hJ p1 hg1
    refine ⟨fun i m σ' H' => m = xs.length - i ∧ i ≤ xs.length ∧ ∃ g' t' k', Stp g1 t H1 g' t' H' ∧ Sim V0.K V0.cl g' H' σ' t' k' ∧ PostS V0 W g' t' H' (forL (fun x t k => match bindG g0 x t with
      | some t => execs V0.G ib t k
      | none => .no) (xs.drop i) t' k') D, ⟨xs.length, rfl, Nat.zero_le _, g1, t, k1, .refl _ _ _, S1, p1⟩, ?_⟩
    rintro i m σ' H' ⟨rfl, hi, g', t', k', s', S', p'⟩
    have hJi := hJ i H' (g'.Ex t') s'.mv.keep s'.mv.ne s'.mv.out (fun b => S'.exs)
    by_cases hlt : i < xs.length
    · have hget : xs[i]? = some xs[i] := List.getElem?_eq_getElem hlt
      have hdrop : xs.drop i = xs[i] :: xs.drop (i + 1) := List.drop_eq_getElem_cons hlt
      rw [hdrop] at p'
      obtain ⟨go, hyl⟩ := hJi.1 _ hget
      refine .inr ⟨go, fun σ'' H'' => ∃ m', m' = xs.length - (i + 1) ∧ i + 1 ≤ xs.length ∧ ∃ g' t' k', Stp g1 t H1 g' t' H'' ∧ Sim V0.K V0.cl g' H'' σ'' t' k' ∧ PostS V0 W g' t' H'' (forL (fun x t k => match bindG g0 x t with
        | some t => execs V0.G ib t k
        | none => .no) (xs.drop (i + 1)) t' k') D, fun σ'' H'' q => ?_, fun v H2 hv => ?_⟩
      · obtain ⟨m', e1, q⟩ := q
        exact ⟨m', by omega, e1, q⟩
      · obtain ⟨hk, rv⟩ := hyl v H2 hv
        have S2 := S'.grow hk
        have st2 : Stp g' t' H' g' t' H2 := ⟨rfl, rfl, .inl rfl, ⟨fun b o q _ _ => hk b o q, fun b z => .inl z, ne_keep hk⟩⟩
        have p3 : PostS V0 W g' t' H' (match (match bindG g0 xs[i] t' with
          | some t => execs V0.G ib t k'
          | none => .no) with
          | .ok .nx t k => forL (fun x t k => match bindG g0 x t with
            | some t => execs V0.G ib t k
            | none => .no) (xs.drop (i + 1)) t k
          | .ok .ct t k => forL (fun x t k => match bindG g0 x t with
            | some t => execs V0.G ib t k
            | none => .no) (xs.drop (i + 1)) t k
          | .ok .bk t k => .ok .nx t k
          | r => r) D := p'
        cases hb2 : bindG g0 xs[i] t' with
        | none => rw [hb2] at p3; exact p3.elim
        | some t2 =>
        rw [hb2] at p3
        refine ⟨g', t', k', xs[i], t2, S2, rv, hb2, fun σ3 _ S3 => ?_⟩
        have st3 : Stp g' t' H' g' t2 H2 := ⟨rfl, rfl, .inl rfl, ⟨fun b o q _ _ => hk b o q, fun b z => .inl (own_less (bindG_own hb2) b z), ne_keep hk⟩⟩
        refine ⟨g', t2, k', s'.ok hg1, S3, ?_⟩
        have p4 := PostS.at st3 p3
        have s4 := s'.trans st3
        show PostS V0 W g' t2 H2 (execs V0.G ib t2 k') _
        revert p4
        dsimp only
        cases execs V0.G ib t2 k' with
        | ok f t5 k5 => cases f with
          | nx => exact fun p2 g'' σ'' H'' s S' => ⟨_, rfl, hlt, g'', t5, k5, s4.trans s, S', PostS.at s p2⟩
          | ct => exact fun p2 g'' σ'' H'' s S' => ⟨_, rfl, hlt, g'', t5, k5, s4.trans s, S', PostS.at s p2⟩
          | bk => exact fun p2 => p2
          | rt s => exact fun p2 => p2
        | ex c x t2 k2 => exact fun p2 => p2
        | no => exact fun p2 => p2
    · have hi' : i = xs.length := Nat.le_antisymm hi (Nat.le_of_not_lt hlt)
      rw [hi', List.drop_length] at p'
      exact .inl ⟨hJi.2 hi', PostS.nx S' (.refl _ _ _) p'⟩
/-! ### several names -/
end
end Q

namespace Q
open PySem PySem.Spec PyProof.Rows L2
def Gh.holds (g : Gh) (L : List Addr) : Gh := { g with Ex0 := fun b => g.Ex0 b ∨ b ∈ L }
theorem holds_nil (g : Gh) : g.holds [] = g := by
  unfold Gh.holds
  have e : (fun b => g.Ex0 b ∨ b ∈ ([] : List Addr)) = g.Ex0 := funext fun b => propext ⟨fun z => z.elim (fun q => q) (fun q => by cases q), Or.inl⟩
  rw [e]
theorem holds_cons (g : Gh) (p : Addr) (L : List Addr) : g.holds (p :: L) = (g.holds L).hold p := by
  unfold Gh.holds Gh.hold
  have e : (fun b => g.Ex0 b ∨ b ∈ p :: L) = fun b => (g.Ex0 b ∨ b ∈ L) ∨ b = p := funext fun b => propext ⟨fun z => by
    rcases z with z | z
    · exact .inl (.inl z)
    · rcases List.mem_cons.mp z with z | z
      · exact .inr z
      · exact .inl (.inr z), fun z => by
    rcases z with (z | z) | z
    · exact .inl z
    · exact .inr (List.mem_cons_of_mem _ z)
    · exact .inr (by rw [z]; exact List.mem_cons_self)⟩
  rw [e]
theorem holds_hold (g : Gh) (p : Addr) (L : List Addr) : (g.hold p).holds L = g.holds (p :: L) := by
  unfold Gh.holds Gh.hold
  have e : (fun b => (g.Ex0 b ∨ b = p) ∨ b ∈ L) = fun b => g.Ex0 b ∨ b ∈ p :: L := funext fun b => propext ⟨fun z => by
    rcases z with (z | z) | z
    · exact .inl z
    · exact .inr (by rw [z]; exact List.mem_cons_self)
    · exact .inr (List.mem_cons_of_mem _ z), fun z => by
    rcases z with z | z
    · exact .inl (.inl z)
    · rcases List.mem_cons.mp z with z | z
      · exact .inl (.inr z)
      · exact .inr z⟩
  rw [e]
/-- values that are to be stored: new lists stand at L -/
inductive ItR (V0 : Ev) (H : Hp) (Ex : Addr → Prop) (dk : Da) : List V → List Sl → List Addr → Prop
  | nil : ItR V0 H Ex dk [] [] []
  | val {v : V} {s : Sl} {vs : List V} {ss : List Sl} {L : List Addr} : RSl V0.K V0.cl H Ex dk v s → ItR V0 H Ex dk vs ss L → ItR V0 H Ex dk (v :: vs) (s :: ss) L
  | own {p : Addr} {ws : List V} {xs : List D} {vs : List V} {ss : List Sl} {L : List Addr} : H p = some (.lst ws) → RpA V0.K H Ex ws xs → p ∉ L → ItR V0 H Ex dk vs ss L → ItR V0 H Ex dk (.ref p :: vs) (.own xs :: ss) (p :: L)
theorem ItR.same {V0 : Ev} {H : Hp} {Ex Ex' : Addr → Prop} {dk : Da} (i : ∀ b, Ex' b → Ex b) : ∀ {vs ss L}, ItR V0 H Ex dk vs ss L → ItR V0 H Ex' dk vs ss L
  | _, _, _, .nil => .nil
  | _, _, _, .val r t => .val (r.same i) (t.same i)
  | _, _, _, .own h r n t => .own h (r.same i) n (t.same i)
theorem ItR.len {V0 : Ev} {H : Hp} {Ex : Addr → Prop} {dk : Da} : ∀ {vs ss L}, ItR V0 H Ex dk vs ss L → vs.length = ss.length
  | _, _, _, .nil => rfl
  | _, _, _, .val _ t => congrArg Nat.succ t.len
  | _, _, _, .own _ _ _ t => congrArg Nat.succ t.len
theorem ItR.up {V0 : Ev} {H H' : Hp} {Ex : Addr → Prop} {dk : Da} (m : Mv H H' Ex Ex) (k : ∀ b o, H b = some o → H' b = some o) : ∀ {vs ss L}, ItR V0 H Ex dk vs ss L → ItR V0 H' Ex dk vs ss L
  | _, _, _, .nil => .nil
  | _, _, _, .val r t => .val (r.mv m fun _ q => q) (t.up m k)
  | _, _, _, .own h r n t => .own (k _ _ h) (r.mv m) n (t.up m k)
section
variable (V0 : Ev) (W : WX)
def PostIs (g : Gh) (σ : L2.St) (t : Tau) (H : Hp) (r : Rs (List Sl)) (Q : List V → Hp → Prop) : Prop := match r with
  | .ok ss k' => ∀ vs H' d' L, Ext g.dk d' H H' → (∀ p ∈ L, H p = none) → Sim V0.K V0.cl ((g.at d').holds L) H' σ t k' → ItR V0 H' (((g.at d').holds L).Ex t) d' vs ss L → Q vs H'
  | .ex c x k' => ∀ d H' d' v, Ext g.dk d' H H' → Sim V0.K V0.cl (g.at d') H' σ t k' → Rp V0.K H' ((g.at d').Ex t) v x → XdR H' ((g.at d').Ex t) d (V0.fld c) v → W (.ref (V0.cl c)) (some d) σ H'
  | .no => False
def tIs (is : List (Nat × Bool)) (es : List IE) : TA := fun σ H Q => ∃ g t k, Sim V0.K V0.cl g H σ t k ∧ PostIs V0 W g σ t H (evIs V0.G t is es k) Q
/-- one value that is to be stored -/
def tI1 (o : Bool) (e : IE) : TE := match o with
  | true => tF V0 W e
  | false => tEv V0 W e
end
def setsV (σ : L2.St) : List (Nat × Bool) → List V → L2.St
  | (i, _) :: is, v :: vs => setsV (σ.set i (some v)) is vs
  | _, _ => σ
section
variable {V0 : Ev} {W : WX} {X : Cx} {n : Nat} {a e : Expr} {es : List Expr} {ia ie : IE} {ies : List IE} {pos : Pos} {i : Nat} {is : List (Nat × Bool)}
theorem Sim.back {K : PySem.W.Frag} {cl : Cls} {g : Gh} {H H1 : Hp} {σ : L2.St} {t : Tau} {k k1 : Ds} {d1 : Da} (S : Sim K cl g H σ t k) (e : Ext g.dk d1 H H1) (hd : DkR H1 d1 k1) (b : Addr) (z : H1 b = none) : H b = none := by
  cases q : H b with
  | none => rfl
  | some o => exact absurd z (e.ne b (some_ne q))
theorem pis_nil : PA X [] (tIs V0 W [] []) := paImp pa_nil fun σ H Q => by
  rintro ⟨g, t, k, S, p⟩
  have p0 : PostIs V0 W g σ t H (.ok [] k) Q := p
  exact p0 [] H g.dk [] (ext0 _ _) (fun p hp => by cases hp) (by rw [holds_nil]; exact S) .nil
theorem pis_cons {o : Bool} (ha : PE X e (tI1 V0 W o ie)) (hr : PA X es (tIs V0 W is ies)) (hs : starEach (e :: es) X.env = (false, eval e X.env) :: starEach es X.env := by rfl) : PA X (e :: es) (tIs V0 W ((i, o) :: is) (ie :: ies)) :=
  paImp (pa_cons ha hr hs) fun σ H Q => by
    rintro ⟨g, t, k, S, p⟩
    have p0 : PostIs V0 W g σ t H ((evI V0.G t o ie k).bind fun s k => (evIs V0.G t is ies k).bind fun r k => .ok (s :: r) k) Q := p
    clear p
    cases o with
    | false =>
      refine ⟨g, t, k, S, ?_⟩
      revert p0
      show _ → PostR V0 W g σ t H (ev V0.G t ie k) _ _
      have e0 : evI V0.G t false ie k = ev V0.G t ie k := rfl
      rw [e0]
      cases ev V0.G t ie k with
      | no => exact fun p => p.elim
      | ex c x k1 => exact fun p => p
      | ok s k1 =>
        intro p0 v H1 d1 e1 S1 r1
        refine ⟨_, t, k1, S1, ?_⟩
        revert p0
        show PostIs V0 W g σ t H ((evIs V0.G t is ies k1).bind fun r k => .ok (s :: r) k) Q → _
        cases evIs V0.G t is ies k1 with
        | no => exact fun p => p.elim
        | ex c x k2 => exact fun p d H' d' v e S r h => p d H' d' v (e1.trans e) S r h
        | ok ss k2 =>
          intro p0 vs H2 d2 L e2 hL S2 r2
          refine p0 (v :: vs) H2 d2 L (e1.trans e2) (fun q hq => S.back e1 S1.dkr q (hL q hq)) S2 (.val ?_ r2)
          refine RSl.mv (H := H1) (Ex := (g.at d1).Ex t) ⟨(S1.mv e2).keep, fun b z => ?_, e2.ne⟩ e2.da r1
          rcases z with (z | z) | z | z
          · exact (S1.mv e2).out b (.inl z)
          · exact .inr (hL b z)
          · exact (S1.mv e2).out b (.inr (.inl z))
          · exact (S1.mv e2).out b (.inr (.inr z))
    | true =>
      refine ⟨g, t, k, S, ?_⟩
      revert p0
      show _ → PostF V0 W g σ t H (ev V0.G t ie k) _
      have e0 : evI V0.G t true ie k = (ev V0.G t ie k).bind fun s k => opt (ownS s) k := rfl
      rw [e0]
      cases ev V0.G t ie k with
      | no => exact fun p => p.elim
      | ex c x k1 => exact fun p => p
      | ok s k1 =>
        cases s with
        | d x => cases x with
          | list xs =>
            intro p0 q ws H1 d1 hq e1 S1 hv r1
            refine ⟨_, t, k1, S1, ?_⟩
            revert p0
            show PostIs V0 W g σ t H ((evIs V0.G t is ies k1).bind fun r k => .ok (.own xs :: r) k) Q → _
            have back := fun b z => S.back e1 S1.dkr b z
            have ndq : ¬ isDk d1 q := S1.exd q (.inr rfl)
            cases evIs V0.G t is ies k1 with
            | no => exact fun p => p.elim
            | ex c x k2 => exact fun p d H' d' v e S r h => p d H' d' v (e1.trans e) S.freed (r.same fun b z => (hold_ex _ q b t).mpr (.inl z)) (h.same fun b z => (hold_ex _ q b t).mpr (.inl z))
            | ok ss k2 =>
              intro p0 vs H2 d2 L e2 hL S2 r2
              have e2 : Ext d1 d2 H1 H2 := e2
              have e3 : (((g.at d1).hold q).at d2).holds L = (g.at d2).holds (q :: L) := holds_hold (g.at d2) q L
              rw [e3] at S2 r2
              have nq : q ∉ L := fun m => by rw [hL q m] at hv; cases hv
              refine p0 (.ref q :: vs) H2 d2 (q :: L) (e1.trans e2) (fun b hb => ?_) S2 (.own (e2.keep q _ hv rfl ndq) ?_ nq r2)
              · rcases List.mem_cons.mp hb with rfl | hb
                · exact hq
                · exact back b (hL b hb)
              · refine RpA.mv (H := H1) (Ex := ((g.at d1).hold q).Ex t) ⟨fun b o h hn nb => e2.keep b o h hn fun z => nb (.inr (.inl z)), fun b z => ?_, e2.ne⟩ r1
                rcases z with (z | z) | z | z
                · exact .inl (.inl (.inl z))
                · rcases List.mem_cons.mp z with z | z
                  · exact .inl (.inl (.inr z))
                  · exact .inr (hL b z)
                · rcases e2.dk with w | ⟨_, w⟩
                  · exact .inl (.inr (.inl (by rw [← w]; exact z)))
                  · exact .inr (w b z)
                · exact .inl (.inr (.inr z))
          | _ => exact fun p => p.elim
        | _ => exact fun p => p.elim
theorem evIs_len {G : Gx} {t : Tau} : ∀ {is : List (Nat × Bool)} {ies : List IE} {k k' : Ds} {ss : List Sl}, evIs G t is ies k = .ok ss k' → ss.length = is.length
  | [], [], k, k', ss, h => by cases h; rfl
  | [], _ :: _, _, _, _, h => by cases h
  | _ :: _, [], _, _, _, h => by cases h
  | (i, o) :: is, e :: es, k, k', ss, h => by
    have h' : ((evI G t o e k).bind fun s k => (evIs G t is es k).bind fun r k => .ok (s :: r) k) = .ok ss k' := h
    cases e1 : evI G t o e k with
    | ok s k1 =>
      rw [e1, yQ] at h'
      cases e2 : evIs G t is es k1 with
      | ok r k2 =>
        rw [e2, yQ] at h'
        cases h'
        exact congrArg Nat.succ (evIs_len e2)
      | _ => rw [e2] at h'; cases h'
    | _ => rw [e1] at h'; cases h'
/-- the values are stored, one after another -/
theorem sets_nx : ∀ {is : List (Nat × Bool)} {ss : List Sl} {vs : List V} {L : List Addr} {g : Gh} {H : Hp} {σ : L2.St} {t : Tau} {k : Ds}, Sim V0.K V0.cl (g.holds L) H σ t k → (∀ p ∈ L, g.H0 p = none) → (∀ p ∈ L, ∀ j ys, t[j]? = some (some (.own ys)) → g.ad j ≠ p) →
    ItR V0 H ((g.holds L).Ex t) g.dk vs ss L → ss.length = is.length → ∃ g', g'.H0 = g.H0 ∧ g'.Ex0 = g.Ex0 ∧ g'.dk = g.dk ∧ (∀ b, g'.Ex (sets t is ss) b → (g.holds L).Ex t b) ∧ Sim V0.K V0.cl g' H (setsV σ is vs) (sets t is ss) k
  | [], [], vs, L, g, H, σ, t, k, S, _, _, r, _ => by
    cases r
    rw [holds_nil] at S ⊢
    exact ⟨g, rfl, rfl, rfl, fun b z => z, S⟩
  | [], _ :: _, _, _, _, _, _, _, _, _, _, _, _, h => by cases h
  | _ :: _, [], _, _, _, _, _, _, _, _, _, _, _, h => by cases h
  | (i, o) :: is, s :: ss, vs, L, g, H, σ, t, k, S, h0, hne, r, hl => by
    have hl' : ss.length = is.length := Nat.succ.inj hl
    cases r with
    | @val v s' vs ss' L' rs rr =>
      have hs : ∀ xs, s ≠ .own xs := fun xs z => by rw [z] at rs; exact rs
      have S' := S.put hs rs (i := i)
      have less : ∀ b, (g.holds L).Ex (t.set i (some s)) b → (g.holds L).Ex t b := fun b z => own_less (fun j xs h => by
        rcases set_get h with ⟨_, e, _⟩ | ⟨_, h⟩
        · exact absurd (Option.some.inj e) (hs xs)
        · exact h) b z
      obtain ⟨g', q1, q2, q3, q4, q5⟩ := sets_nx (is := is) S' h0 (fun p hp j ys h => by
        rcases set_get h with ⟨_, e, _⟩ | ⟨_, h⟩
        · exact absurd (Option.some.inj e) (hs ys)
        · exact hne p hp j ys h) (rr.same less) hl'
      exact ⟨g', q1, q2, q3, fun b z => less b (q4 b z), q5⟩
    | @own p ws xs vs ss' L' hp rp np rr =>
      rw [holds_cons] at S
      have S' := S.mine (i := i) (show (g.holds L').H0 p = none from h0 p List.mem_cons_self) hp (by rw [← holds_cons]; exact rp) fun j ys h => hne p List.mem_cons_self j ys h
      have S2 : Sim V0.K V0.cl ((g.mine i p).holds L') H (σ.set i (some (.ref p))) (t.set i (some (.own xs))) k := S'
      have aj : ∀ j, i ≠ j → (g.mine i p).ad j = g.ad j := fun j h => if_neg (Ne.symm h)
      have ai : (g.mine i p).ad i = p := if_pos rfl
      have less : ∀ b, ((g.mine i p).holds L').Ex (t.set i (some (.own xs))) b → (g.holds (p :: L')).Ex t b := fun b z => by
        rcases z with (z | z) | z | ⟨j, ys, h1, h2⟩
        · exact .inl (.inl z)
        · exact .inl (.inr (List.mem_cons_of_mem _ z))
        · exact .inr (.inl z)
        · rcases set_get h1 with ⟨rfl, _, _⟩ | ⟨ne, h⟩
          · have h2' : (g.mine i p).ad i = b := h2
            rw [ai] at h2'
            exact .inl (.inr (by rw [h2']; exact List.mem_cons_self))
          · have h2' : (g.mine i p).ad j = b := h2
            rw [aj j ne] at h2'
            exact .inr (.inr ⟨j, ys, h, h2'⟩)
      obtain ⟨g', q1, q2, q3, q4, q5⟩ := sets_nx (is := is) (g := g.mine i p) S2 (fun q hq => h0 q (List.mem_cons_of_mem _ hq)) (fun q hq j ys h => by
        rcases set_get h with ⟨rfl, _, _⟩ | ⟨ne, h⟩
        · rw [ai]; exact fun z => np (by rw [z]; exact hq)
        · rw [aj j ne]; exact hne q (List.mem_cons_of_mem _ hq) j ys h) (rr.same less) hl'
      exact ⟨g', q1, q2, q3, fun b z => less b (q4 b z), q5⟩
theorem par_nx {g : Gh} {σ : L2.St} {t : Tau} {H : Hp} {k : Ds} {D : Ends} (S : Sim V0.K V0.cl g H σ t k) (p : PostS V0 W g t H ((evIs V0.G t is ies k).thn t fun ss k => .ok .nx (sets t is ss) k) D) :
    PostIs V0 W g σ t H (evIs V0.G t is ies k) fun vs H1 => vs.length = is.length ∧ D.nx (setsV σ is vs) H1 := by
  revert p
  cases h : evIs V0.G t is ies k with
  | no => exact fun p => p.elim
  | ex c x k1 => exact fun p d H1 d1 v e S1 r hx => p _ σ H1 d v (stp_of S e) S1 r hx
  | ok ss k1 =>
    intro p vs H1 d1 L e1 hL S1 r
    have hl := evIs_len h
    have p1 : PostS V0 W g t H (.ok .nx (sets t is ss) k1) D := p
    obtain ⟨g', q1, q2, q3, q4, q5⟩ := sets_nx (g := g.at d1) S1 (fun q hq => by
      cases z : g.H0 q with
      | none => first | exact z | rfl
      | some o => exact absurd (hL q hq) (S.kept q (some_ne z))) (fun q hq j ys h z => by
      obtain ⟨_, _, _, ws, h4, _⟩ := S.own j ys h
      have z' : g.ad j = q := z
      rw [z', hL q hq] at h4; cases h4) r hl
    refine ⟨by rw [r.len, hl], ?_⟩
    have s1 := stp_of S e1
    refine p1 g' _ H1 ⟨q1, q2, ?_, ⟨s1.mv.keep, fun b z => ?_, s1.mv.ne⟩⟩ q5
    · rcases s1.dk with w | ⟨w1, w2⟩
      · exact .inl (q3.trans w)
      · exact .inr ⟨w1, fun b z => w2 b (by rw [q3] at z; exact z)⟩
    · rcases q4 b z with (z | z) | z | z
      · exact .inl (.inl z)
      · exact .inr (hL b z)
      · exact s1.mv.out b (.inr (.inl z))
      · exact .inl (.inr (.inr z))
/-- a, b = .. with plain locals -/
theorem s_par2 {i j : Nat} {o1 o2 : Bool} {x y : Str} {a b : Expr} {px py pt : Pos} {kt k2 pt2} {ia ib : IE} (hc : X.calm = true) (hN : X.N.Nodup) (hi : X.N[i]? = some x) (hj : X.N[j]? = some y) (hij : i ≠ j)
    (hx : X.env.scope.names.lookup x = some .local) (hy : X.env.scope.names.lookup y = some .local) (ha : PA X [a, b] (tIs V0 W [(i, o1), (j, o2)] [ia, ib]))
    (hw : swappedStores [.Tuple [.Name x px, .Name y py] kt pt] (.Tuple [a, b] k2 pt2) X.env = pure (some [x, y]))
    (hs : swapsWithSole [.Tuple [.Name x px, .Name y py] kt pt] (.Tuple [a, b] k2 pt2) pos.line X.env = pure false := by rfl) :
    PS X (.Assign [.Tuple [.Name x px, .Name y py] kt pt] (.Tuple [a, b] k2 pt2) pos) (tS V0 W (.par [(i, o1), (j, o2)] [ia, ib])) :=
  psImp (ps_par hc hN hi hj hij hx hy ha hw hs) fun D σ H => by
    rintro ⟨g, t, k, hg, S, p⟩
    refine ⟨g, t, k, S, ?_⟩
    have q := par_nx S p
    revert q
    cases evIs V0.G t [(i, o1), (j, o2)] [ia, ib] k with
    | ok ss k1 =>
      intro q vs H1 d1 L e1 hL S1 r
      obtain ⟨q1, q2⟩ := q vs H1 d1 L e1 hL S1 r
      match vs, q1 with
      | [v, w], _ => exact ⟨v, w, rfl, q2⟩
    | ex c x k1 => exact fun q => q
    | no => exact fun q => q
/-- the names of any kind, as many as one likes -/
def tNm (is : List (Nat × Bool)) : TGs := fun vs σ H Q => vs.length = is.length ∧ Q (setsV σ is vs) H
end
end Q

namespace Q
open PySem PySem.Spec PyProof.Rows L2
section
variable {K : PySem.W.Frag} {cl : Cls} {g : Gh} {H H' : Hp} {σ : L2.St} {t : Tau} {k : Ds}
/-- the deck is rewritten -/
theorem Sim.redeck {k' : Ds} (S : Sim K cl g H σ t k) (hk : ∀ b o, ¬ isDk g.dk b → H b = some o → H' b = some o) (hd : DkR H' g.dk k') : Sim K cl g H' σ t k' ∧ Stp g t H g t H' := by
  have e : Ext g.dk g.dk H H' := ⟨fun b o h _ n => hk b o n h, .inl rfl, fun b h => by
    by_cases n : isDk g.dk b
    · exact hd.some_of n
    · exact (fun ⟨o, q⟩ => some_ne (hk b o n q)) (Option.ne_none_iff_exists'.mp h)⟩
  have ht : LamX.Tabs cl.T H' := tabs_of S.tab fun b o q z => hk b o (fun n => by rw [S.dkr.plain n q] at z; cases z) q
  exact ⟨S.step (d' := g.dk) e hd ht, ⟨rfl, rfl, .inl rfl, S.mv (d' := g.dk) e⟩⟩
end
section
variable {V0 : Ev} {W : WX} {X : Cx} {n : Nat} {a e : Expr} {es : List Expr} {ia ie : IE} {ies : List IE} {pos : Pos} {st : Stmt} {sts rest body : List Stmt} {x : Str} {i : Nat} {p1 p2 p3 pos' : Pos}
/-! ### the deck -/
theorem kk_ne {q f : Str} (h : f ≠ q) : ¬ ((Sum.inr q : Key) = Sum.inr f) := fun z => h (Sum.inr.inj z).symm
theorem dk_val {q : Dk} {l : V} {f : Str} (h : f ≠ q.key) : valV [((Sum.inr q.key : Key), l), (Sum.inr "mixed", .int q.mixed), (Sum.inr "draws", .int q.draws)] (Sum.inr f) = if f = "mixed" then some (.int q.mixed) else if f = "draws" then some (.int q.draws) else none := by
  rw [valV_neg (kk_ne h)]
  by_cases h1 : f = "mixed"
  · subst h1; rw [valV_pos rfl, if_pos rfl]
  · rw [valV_neg (fun z => h1 (Sum.inr.inj z).symm), if_neg h1]
    by_cases h2 : f = "draws"
    · subst h2; rw [valV_pos rfl, if_pos rfl]
    · rw [valV_neg (fun z => h2 (Sum.inr.inj z).symm), if_neg h2]; rfl
/-- where the deck stands -/
theorem deck_at {g : Gh} {H : Hp} {σ : L2.St} {t : Tau} {k : Ds} {q : Dk} (S : Sim V0.K V0.cl g H σ t k) (h : varT t i = some .deck) (hk : k = some q) : ∃ a l, g.dk = some (a, l) ∧ σ[i]? = some (some (.ref a)) ∧ a ≠ l ∧
    H a = some (.dK [(.inr q.key, .ref l), (.inr "mixed", .int q.mixed), (.inr "draws", .int q.draws)]) ∧ H l = some (.lst (q.left.map V.int)) ∧ q.left.length ≤ 1000 := by
  obtain ⟨v, h1, a, l, h2, rfl⟩ := S.sl i _ (var_getD h) (fun xs q => by cases q)
  have d := S.dkr
  rw [h2, hk] at d
  obtain ⟨d0, d1, d2, d3⟩ := d
  exact ⟨a, l, h2, h1, d0, d1, d2, d3⟩
theorem se_dkGet {f : Str} {kk : Nat} (C : Cq V0 W X n) (hv : PE X (.Name x p1) (tVar i)) (hs : NoSl (.Constant (.str f) kk p2) := by intro _ _; rfl) : SE V0 W X (.Subscript (.Name x p1) (.Constant (.str f) kk p2) pos) (.dkGet i f) := by
  refine SE.mk' (peImp (pe_dget (by have := C.un; omega) hv pe_str hs) fun σ H Q => ?_) (fun i q => by cases q)
  rintro ⟨g, t, k, S, p⟩
  have p0 : PostR V0 W g σ t H (match varT t i, k with
    | some .deck, some q => if f = q.key then .no else if f = "draws" then .ok (.d (.int q.draws)) k else if f = "mixed" then .ok (.d (.int q.mixed)) k else .no
    | _, _ => .no) (relS' V0 t) Q := p
  cases hd : varT t i with
  | none => rw [hd] at p0; exact p0.elim
  | some s =>
  rw [hd] at p0
  cases s with
  | deck => cases k with
    | none => exact p0.elim
    | some q =>
      have p1 : PostR V0 W g σ t H (if f = q.key then .no else if f = "draws" then .ok (.d (.int q.draws)) (some q) else if f = "mixed" then .ok (.d (.int q.mixed)) (some q) else .no) (relS' V0 t) Q := p0
      obtain ⟨a, l, h1, h2, h3, h4, h5, h6⟩ := deck_at S hd rfl
      by_cases e0 : f = q.key
      · rw [if_pos e0] at p1; exact p1.elim
      · rw [if_neg e0] at p1
        have hv := dk_val (q := q) (l := .ref l) e0
        by_cases e1 : f = "draws"
        · rw [if_pos e1] at p1
          have e2 : ¬ f = "mixed" := by rw [e1]; decide
          rw [if_neg e2, if_pos e1] at hv
          exact ⟨_, h2, a, _, rfl, by have z := DGet.k (k := Sum.inr f) h4; rw [hv] at z; exact z, (PostR.out S p1).int⟩
        · rw [if_neg e1] at p1
          by_cases e2 : f = "mixed"
          · rw [if_pos e2] at p1
            rw [if_pos e2] at hv
            exact ⟨_, h2, a, _, rfl, by have z := DGet.k (k := Sum.inr f) h4; rw [hv] at z; exact z, (PostR.out S p1).int⟩
          · rw [if_neg e2] at p1; exact p1.elim
  | _ => exact p0.elim
theorem ints_shp (ns : List Int) : shp (.list (ns.map PyData.int)) = true := by
  have h1 : ∀ ns : List Int, PyData.canLayAll0 (ns.map PyData.int) = true := by
    intro ns
    induction ns with
    | nil => rfl
    | cons n ns ih => simp [PyData.canLayAll0, PyData.canLay0, ih]
  have h2 : (PyData.list (ns.map PyData.int)).depth ≤ 64 := by
    have : ∀ ns : List Int, PyData.depthAll (ns.map PyData.int) ≤ 0 := by
      intro ns
      induction ns with
      | nil => simp [PyData.depthAll]
      | cons n ns ih => simp [PyData.depthAll, PyData.depth] at ih ⊢; exact ih
    simp [PyData.depth]
    have := this ns
    omega
  unfold shp SeqAt.shaped
  rw [Bool.and_eq_true]
  exact ⟨by simp only [PyData.canLay0]; exact h1 ns, decide_eq_true h2⟩
end
end Q

namespace Q
open PySem PySem.Spec PyProof.Rows L2
section
variable {V0 : Ev} {W : WX} {X : Cx} {n : Nat} {a e : Expr} {es : List Expr} {ia ie : IE} {ies : List IE} {pos : Pos} {st : Stmt} {sts rest body : List Stmt} {x : Str} {i : Nat} {p1 p2 p3 p4 p5 pos' : Pos} {f : Str} {kk : Nat}
/-- the deck's own list -/
theorem dk_list {q : Dk} {l a : Addr} {g : Gh} {H : Hp} (h4 : H a = some (.dK [(.inr q.key, .ref l), (.inr "mixed", .int q.mixed), (.inr "draws", .int q.draws)])) : DGet H a (.str q.key) (some (.ref l)) := by
  have z := DGet.k (k := Sum.inr q.key) h4
  rw [valV_pos rfl] at z
  exact z
theorem eqv_nil (ns : List Int) : PyData.eqv (.list (ns.map PyData.int)) (.list []) = ns.isEmpty := by
  cases ns <;> simp [PyData.eqv, PyData.eqvAll]
theorem se_dkNe {p6 : Pos} (C : Cq V0 W X n) (hv : PE X (.Name x p1) (tVar i)) (hs : NoSl (.Constant (.str f) kk p2) := by intro _ _; rfl) (hm : behindInMarks .NotEq (.List [] p6) = false := by rfl) : SE V0 W X (.Compare (.Subscript (.Name x p1) (.Constant (.str f) kk p2) p3) [.NotEq] [.List [] p6] pos) (.dkNe i f) := by
  have hL : PE X (.Subscript (.Name x p1) (.Constant (.str f) kk p2) p3) (tDGet (tVar i) (tC (.str f))) := pe_dget (by have := C.un; omega) hv pe_str hs
  have hE : PE X (.List [] p6) (tLst tNil) := pe_lst pa_nil
  have key : ∀ {g : Gh} {σ : L2.St} {t : Tau} {H : Hp} {k : Ds} {q : Dk} {Q : VK}, Sim V0.K V0.cl g H σ t k → varT t i = some .deck → k = some q → f = q.key → (∀ H', (∀ b o, H b = some o → H' b = some o) → Q (.bl (!q.left.isEmpty)) H') →
      tOp (rC X.K (cmpD .NotEq)) (tDGet (tVar i) (tC (.str f))) (tLst tNil) σ H Q := by
    intro g σ t H k q Q S hd hk hf hQ
    obtain ⟨a, l, h1, h2, h3, h4, h5, h6⟩ := deck_at S hd hk
    subst hf
    refine ⟨_, h2, a, _, rfl, dk_list (g := g) h4, Nat.zero_le _, fun p hp => ?_⟩
    have hk2 := upd_keep (u := .lst []) hp
    have r1 : Sh X.K (upd H p (.lst [])) (fun _ => False) (.ref l) (.list (q.left.map PyData.int)) := .inr ⟨l, _, _, rfl, rfl, hk2 _ _ h5, rpA_ints _⟩
    have r2 : Sh X.K (upd H p (.lst [])) (fun _ => False) (.ref p) (.list []) := .inr ⟨p, _, _, rfl, rfl, upd_same, .nil⟩
    refine ⟨_, _, _, _, r1, r2, ?_, hQ _ hk2⟩
    have e1 : shp (.list []) = true := ints_shp []
    show (if (shp (.list (q.left.map PyData.int)) && shp (.list [])) || bareE (.list (q.left.map PyData.int)) (.list []) then some (!PyData.eqv (.list (q.left.map PyData.int)) (.list [])) else none) = _
    rw [ints_shp, e1, eqv_nil]
    rfl
  have h0 : PE X (.Compare (.Subscript (.Name x p1) (.Constant (.str f) kk p2) p3) [.NotEq] [.List [] p6] pos) (tEv V0 W (.dkNe i f)) := peImp (pe_cmpR (op_cmp C.un .NotEq) hL hE hm) fun σ H Q => by
    rintro ⟨g, t, k, S, p⟩
    have p0 : PostR V0 W g σ t H (match (generalizing := false) varT t i, k with
      | some .deck, some q => if f = q.key then .ok (.d (.bool (!q.left.isEmpty))) k else .no
      | _, _ => .no) (relS' V0 t) Q := p
    cases hd : varT t i with
    | none => rw [hd] at p0; exact p0.elim
    | some s =>
    rw [hd] at p0
    cases s with
    | deck => cases k with
      | none => exact p0.elim
      | some q =>
        have p1 : PostR V0 W g σ t H (if f = q.key then .ok (.d (.bool (!q.left.isEmpty))) (some q) else .no) (relS' V0 t) Q := p0
        by_cases hf : f = q.key
        · rw [if_pos hf] at p1
          exact key S hd rfl hf fun H' hk => PostR.out S p1 _ _ hk (.bl _)
        · rw [if_neg hf] at p1; exact p1.elim
    | _ => exact p0.elim
  refine ⟨h0, pd_of h0 (fun i q => by cases q), ptImp (pt_cmpR (op_cmp C.un .NotEq) hL hE hm) fun σ H Q => ?_⟩
  rintro ⟨g, t, k, S, p⟩
  have p0 : PostR V0 W g σ t H (tst (evd V0.G t (.dkNe i f) k)) relB' Q := p
  rw [evd_eq (fun i q => by cases q)] at p0
  have p0 : PostR V0 W g σ t H (tst (data (match (generalizing := false) varT t i, k with
    | some .deck, some q => if f = q.key then .ok (.d (.bool (!q.left.isEmpty))) k else .no
    | _, _ => .no))) relB' Q := p0
  cases hd : varT t i with
  | none => rw [hd] at p0; exact p0.elim
  | some s =>
  rw [hd] at p0
  cases s with
  | deck => cases k with
    | none => exact p0.elim
    | some q =>
      have p1 : PostR V0 W g σ t H (tst (data (if f = q.key then .ok (.d (.bool (!q.left.isEmpty))) (some q) else .no))) relB' Q := p0
      by_cases hf : f = q.key
      · rw [if_pos hf] at p1
        have p2 : PostR V0 W g σ t H (.ok (!q.left.isEmpty) (some q)) relB' Q := p1
        refine key (Q := fun v H' => ∃ b, v = .bl b ∧ Q b H') S hd rfl hf fun H' hk => ⟨_, rfl, ?_⟩
        exact p2 _ H' g.dk (Ext.all hk) (S.grow hk) rfl
      · rw [if_neg hf] at p1; exact p1.elim
  | _ => exact p0.elim
/-- deck['draws'] = e -/
theorem s_dkSet (C : Cq V0 W X n) (hv : PE X (.Name x p1) (tVar i)) (he : SE V0 W X e ie) (hs : swapsWith e (some (.Subscript (.Name x p1) (.Constant (.str f) kk p2) p3)) pos.line X.env = pure false := by rfl) :
    PS X (.Assign [.Subscript (.Name x p1) (.Constant (.str f) kk p2) p3] e pos) (tS V0 W (.dkSet i f ie)) :=
  psImp (ps_dput (by have := C.un; omega) hv pe_str he.pd hs) fun D σ H => by
    rintro ⟨g, t, k, hg, S, p⟩
    have p0 : PostS V0 W g t H (match varT t i with
      | some .deck => (dl t ie k (ev V0.G t ie k)).thn t fun y k => match k, y with
        | some q, .int y => if f = q.key then .no else if f = "draws" then .ok .nx t (some { q with draws := y }) else .no
        | _, _ => .no
      | _ => .no) D := p
    cases hd : varT t i with
    | none => rw [hd] at p0; exact p0.elim
    | some s =>
    rw [hd] at p0
    cases s with
    | deck =>
      refine ⟨g, t, k, S, PostS.thn S p0 fun y k1 v H1 d1 e1 S1 r1 p1 => ?_⟩
      cases k1 with
      | none => exact p1.elim
      | some q => cases y with
        | int y =>
          have p2 : PostS V0 W (g.at d1) t H1 (if f = q.key then .no else if f = "draws" then .ok .nx t (some { q with draws := y }) else .no) D := p1
          by_cases e0 : f = q.key
          · rw [if_pos e0] at p2; exact p2.elim
          rw [if_neg e0] at p2
          by_cases e1 : f = "draws"
          case neg => rw [if_neg e1] at p2; exact p2.elim
          rw [if_pos e1] at p2
          subst e1
          obtain ⟨a, l, h1, h2, h3, h4, h5, h6⟩ := deck_at S1 hd rfl
          obtain rfl := relD_int r1
          have hput : putK [((Sum.inr q.key : Key), V.ref l), (Sum.inr "mixed", .int q.mixed), (Sum.inr "draws", .int q.draws)] (Sum.inr "draws") (.int y) = [((Sum.inr q.key : Key), V.ref l), (Sum.inr "mixed", .int q.mixed), (Sum.inr "draws", .int y)] := by
            have n1 : ¬ (Sum.inr q.key : Key) = Sum.inr ("draws" : Str) := kk_ne e0
            have n2 : ¬ (Sum.inr ("mixed" : Str) : Key) = Sum.inr ("draws" : Str) := by decide
            unfold putK
            simp [n1, n2]
          have hH : DPut H1 a (.str "draws") (.int y) (upd H1 a (.dK [((Sum.inr q.key : Key), V.ref l), (Sum.inr "mixed", .int q.mixed), (Sum.inr "draws", .int y)])) := by
            have z := DPut.k (k := Sum.inr "draws") (v := .int y) h4 (by rw [sizeLine_eq]; simp)
            rw [hput] at z
            exact z
          refine ⟨_, h2, a, _, rfl, hH, ?_⟩
          have dn : (g.at d1).dk = some (a, l) := h1
          obtain ⟨S2, s2⟩ := S1.redeck (k' := some { q with draws := y }) (H' := upd H1 a (.dK [((Sum.inr q.key : Key), V.ref l), (Sum.inr "mixed", .int q.mixed), (Sum.inr "draws", .int y)])) (fun b o nb h => by
            rw [dn] at nb
            rw [upd_ne (fun z => nb (.inl z))]; exact h) (by rw [dn]; exact ⟨h3, upd_same, by rw [upd_ne (Ne.symm h3)]; exact h5, h6⟩)
          exact PostS.nx S2 s2 p2
        | _ => exact p1.elim
    | _ => exact p0.elim
/-- name = deck['left'].pop() -/
theorem s_dkPop {j : Nat} {y : Str} (C : Cq V0 W X n) (hj : X.N[j]? = some y) (hx : Loc X.env.scope y) (hf : X.fn y = true ∨ X.env.scope.names.lookup y = some .local) (hv : PE X (.Name x p1) (tVar i)) (hns : NoSl (.Constant (.str f) kk p2) := by intro _ _; rfl)
    (hbase : attributeBase (.Subscript (.Name x p1) (.Constant (.str f) kk p2) p3) "pop" X.env (eval (.Subscript (.Name x p1) (.Constant (.str f) kk p2) p3) X.env) = eval (.Subscript (.Name x p1) (.Constant (.str f) kk p2) p3) X.env := by rfl) (hline : (p4.endLine == p5.line) = true := by rfl)
    (hs : swapsWith (.Call (.Attribute (.Subscript (.Name x p1) (.Constant (.str f) kk p2) p3) "pop" p4) [] [] p5) (some (.Name y pos')) pos.line X.env = pure false := by rfl) :
    PS X (.Assign [.Name y pos'] (.Call (.Attribute (.Subscript (.Name x p1) (.Constant (.str f) kk p2) p3) "pop" p4) [] [] p5) pos) (tS V0 W (.dkPop j i f)) :=
  psImp (ps_set C.nd hj hx (pe_bm0 PySem.F.plainAttrs_list PySem.F.slot_list_pop PySem.F.type_list_pop mt_pop (pe_dget (by have := C.un; omega) hv pe_str hns) hbase hline) hs hf) fun D σ H => by
    rintro ⟨g, t, k, hg, S, p⟩
    have p0 : PostS V0 W g t H (match (generalizing := false) varT t i, k with
      | some .deck, some q => if f = q.key then (match q.left.getLast? with
        | some y => .ok .nx (t.set j (some (.d (.int y)))) (some { q with left := q.left.dropLast })
        | none => .no) else .no
      | _, _ => .no) D := p
    cases hd : varT t i with
    | none => rw [hd] at p0; exact p0.elim
    | some s =>
    rw [hd] at p0
    cases s with
    | deck => cases k with
      | none => exact p0.elim
      | some q =>
        have p1 : PostS V0 W g t H (if f = q.key then (match q.left.getLast? with
          | some y => .ok .nx (t.set j (some (.d (.int y)))) (some { q with left := q.left.dropLast })
          | none => .no) else .no) D := p0
        by_cases hq : f = q.key
        case neg => rw [if_neg hq] at p1; exact p1.elim
        rw [if_pos hq] at p1
        cases hl : q.left.getLast? with
        | none => rw [hl] at p1; exact p1.elim
        | some y =>
        rw [hl] at p1
        have p2 : PostS V0 W g t H (.ok .nx (t.set j (some (.d (.int y)))) (some { q with left := q.left.dropLast })) D := p1
        obtain ⟨a, l, h1, h2, h3, h4, h5, h6⟩ := deck_at S hd rfl
        subst hq
        have hy : (q.left.map V.int)[(q.left.map V.int).length - 1]? = some (.int y) := by
          rw [List.getElem?_map, List.length_map]
          rw [List.getLast?_eq_getElem?] at hl
          rw [hl]; rfl
        have hdl : (q.left.map V.int).dropLast = q.left.dropLast.map V.int := by rw [List.map_dropLast]
        obtain ⟨S2, s2⟩ := S.redeck (k' := some { q with left := q.left.dropLast }) (H' := upd H l (.lst (q.left.dropLast.map V.int))) (fun b o nb h => by
          rw [h1] at nb
          rw [upd_ne (fun z => nb (.inr z))]; exact h) (by rw [h1]; exact ⟨h3, by rw [upd_ne h3]; exact h4, upd_same, by rw [List.length_dropLast]; omega⟩)
        refine ⟨_, h2, a, _, rfl, dk_list (g := g) h4, .inl ⟨rfl, _, .of h5⟩, l, _, _, rfl, rfl, h5, hy, ?_⟩
        rw [hdl]
        exact put_nx S2 (s := .d (.int y)) (.int _) (PostS.at s2 p2)
    | _ => exact p0.elim
/-- deck['left'].append(e) -/
theorem s_dkApp (C : Cq V0 W X n) (hv : PE X (.Name x p1) (tVar i)) (he : SE V0 W X e ie) (hns : NoSl (.Constant (.str f) kk p2) := by intro _ _; rfl)
    (hs : swapsWith (.Call (.Attribute (.Subscript (.Name x p1) (.Constant (.str f) kk p2) p3) "append" p4) [e] [] p5) none pos.line X.env = pure false := by rfl)
    (hbase : attributeBase (.Subscript (.Name x p1) (.Constant (.str f) kk p2) p3) "append" X.env (eval (.Subscript (.Name x p1) (.Constant (.str f) kk p2) p3) X.env) = eval (.Subscript (.Name x p1) (.Constant (.str f) kk p2) p3) X.env := by rfl)
    (hfew : ((backTo p5 (starEach [e] X.env)).all (fun x => !x.1) && (backToKw p5 (keywordEach [] X.env)).all (fun x => x.1.isSome)
      && decide ([e].length + ([] : List Keyword).length + (if ([] : List Keyword).isEmpty then 0 else 1) < 30)) = true := by rfl)
    (hline : (p4.endLine == p5.line) = true := by rfl) (hst : starEach [e] X.env = (false, eval e X.env) :: starEach [] X.env := by rfl) (hpl : (backTo p5 (starEach [] X.env)).any (·.1) = false := by rfl) :
    PS X (.Expr (.Call (.Attribute (.Subscript (.Name x p1) (.Constant (.str f) kk p2) p3) "append" p4) [e] [] p5) pos) (tS V0 W (.dkApp i f ie)) :=
  psImp (ps_expr (pe_bm PySem.F.plainAttrs_list PySem.F.slot_list_append PySem.F.type_list_append mt_append (pe_dget (by have := C.un; omega) hv pe_str hns) (pa_cons he.pd pa_nil hst) hbase hfew hline hst hpl) hs) fun D σ H => by
    rintro ⟨g, t, k, hg, S, p⟩
    have p0 : PostS V0 W g t H (match (generalizing := false) varT t i, k with
      | some .deck, some q => if f = q.key then (dl t ie k (ev V0.G t ie k)).thn t fun y k => match k, y with
        | some q, .int y => if f = q.key then (if q.left.length < 1000 then .ok .nx t (some { q with left := q.left ++ [y] }) else .no) else .no
        | _, _ => .no
        else .no
      | _, _ => .no) D := p
    cases hd : varT t i with
    | none => rw [hd] at p0; exact p0.elim
    | some s =>
    rw [hd] at p0
    cases s with
    | deck => cases k with
      | none => exact p0.elim
      | some q =>
        have p1 : PostS V0 W g t H (if f = q.key then (dl t ie (some q) (ev V0.G t ie (some q))).thn t fun y k => match k, y with
          | some q, .int y => if f = q.key then (if q.left.length < 1000 then .ok .nx t (some { q with left := q.left ++ [y] }) else .no) else .no
          | _, _ => .no
          else .no) D := p0
        by_cases hq : f = q.key
        case neg => rw [if_neg hq] at p1; exact p1.elim
        rw [if_pos hq] at p1
        obtain ⟨a, l, h1, h2, h3, h4, h5, h6⟩ := deck_at S hd rfl
        have hg0 : DGet H a (.str f) (some (.ref l)) := by rw [hq]; exact dk_list (g := g) h4
        refine ⟨_, h2, a, _, rfl, hg0, .inl ⟨rfl, _, .of h5⟩, g, t, some q, S, PostS.thn S p1 fun y k1 v H1 d1 e1 S1 r1 p2 => ?_⟩
        cases k1 with
        | none => exact p2.elim
        | some q1 => cases y with
          | int y =>
            have p3 : PostS V0 W (g.at d1) t H1 (if f = q1.key then (if q1.left.length < 1000 then .ok .nx t (some { q1 with left := q1.left ++ [y] }) else .no) else .no) D := p2
            by_cases hq1 : f = q1.key
            case neg => rw [if_neg hq1] at p3; exact p3.elim
            rw [if_pos hq1] at p3
            by_cases hl : q1.left.length < 1000
            case neg => rw [if_neg hl] at p3; exact p3.elim
            rw [if_pos hl] at p3
            obtain ⟨a', l', g1, g2, g3, g4, g5, g6⟩ := deck_at S1 hd rfl
            have e3 : d1 = g.dk := by
              rcases e1.dk with z | ⟨z, _⟩
              · exact z
              · rw [h1] at z; cases z
            have e4 : some (a', l') = some (a, l) := by rw [← h1, ← e3]; exact g1.symm
            cases e4
            obtain rfl := relD_int r1
            obtain ⟨S2, s2⟩ := S1.redeck (k' := some { q1 with left := q1.left ++ [y] }) (H' := upd H1 l (.lst ((q1.left ++ [y]).map V.int))) (fun b o nb h => by
              have nb' : ¬ isDk (g.at d1).dk b := nb
              rw [g1] at nb'
              rw [upd_ne (fun z => nb' (.inr z))]; exact h) (by
                show DkR _ (g.at d1).dk _
                rw [g1]; exact ⟨g3, by rw [upd_ne g3]; exact g4, upd_same, by rw [List.length_append]; simp; omega⟩)
            refine ⟨l, _, _, rfl, rfl, g5, by rw [List.length_map, sizeLine_eq]; omega, ?_⟩
            have em : (q1.left.map V.int) ++ [V.int y] = (q1.left ++ [y]).map V.int := by rw [List.map_append]; rfl
            rw [em]
            exact PostS.nx S2 s2 p3
          | _ => exact p2.elim
    | _ => exact p0.elim
end
end Q

namespace Q
open PySem PySem.Spec PyProof.Rows L2
section
variable {V0 : Ev} {W : WX} {X : Cx} {n : Nat} {a b c e : Expr} {ia ib ic ie : IE} {pos ps p1 p2 p3 : Pos} {f : Str} {k1 k2 k3 : Nat}
theorem mergeK_deck {f : Str} {l m d : V} (h1 : f ≠ "mixed") (h2 : f ≠ "draws") : mergeK [] [((Sum.inr f : Key), l), (Sum.inr "mixed", m), (Sum.inr "draws", d)] = [((Sum.inr f : Key), l), (Sum.inr "mixed", m), (Sum.inr "draws", d)] := by
  have n1 : ¬ (Sum.inr f : Key) = Sum.inr ("mixed" : Str) := fun z => h1 (Sum.inr.inj z)
  have n2 : ¬ (Sum.inr f : Key) = Sum.inr ("draws" : Str) := fun z => h2 (Sum.inr.inj z)
  have n3 : ¬ (Sum.inr ("mixed" : Str) : Key) = Sum.inr ("draws" : Str) := by decide
  simp [mergeK, putK, n1, n2, n3]
theorem DkR.none_of {H : Hp} {d : Da} (h : DkR H d none) : d = none := by
  cases d with
  | none => rfl
  | some p => exact h.elim
/-- a deck is made -/
theorem Sim.deckOf {K : PySem.W.Frag} {cl : Cls} {g g3 : Gh} {H H3 : Hp} {σ : L2.St} {t : Tau} {k : Ds} {p q : Addr} {ns : List Int} {m d : Int} (S : Sim K cl g H σ t k) (hp : H p = none) (hq : H q = none) (hpq : p ≠ q)
    (hg : g.dk = none) (hdk : g3.dk = none) (h0 : g3.H0 = g.H0) (ha : g3.ad = g.ad) (he : ∀ b, g3.Ex0 b ↔ (g.Ex0 b ∨ b = p ∨ b = q)) (S3 : Sim K cl g3 H3 σ t none) (hk : ∀ b o, H b = some o → nt o = true → H3 b = some o) (hne : ∀ b, H b ≠ none → H3 b ≠ none) (hp3 : H3 p = some (.dK [])) (hq3 : H3 q = some (.lst (ns.map V.int))) (hl : ns.length ≤ 1000) :
    Sim K cl { g with dk := some (p, q) } (upd H3 p (.dK [((Sum.inr f : Key), .ref q), (Sum.inr "mixed", .int m), (Sum.inr "draws", .int d)])) σ t (some ⟨f, ns, m, d⟩) ∧
      Stp g t H { g with dk := some (p, q) } t (upd H3 p (.dK [((Sum.inr f : Key), .ref q), (Sum.inr "mixed", .int m), (Sum.inr "draws", .int d)])) := by
  have hx : ∀ b, Gh.Ex { g with dk := some (p, q) } t b ↔ g3.Ex t b := fun b => by
    constructor
    · rintro (z | z | ⟨i, xs, z1, z2⟩)
      · exact .inl ((he b).mpr (.inl z))
      · rcases z with z | z
        · exact .inl ((he b).mpr (.inr (.inl z)))
        · exact .inl ((he b).mpr (.inr (.inr z)))
      · exact .inr (.inr ⟨i, xs, z1, by rw [ha]; exact z2⟩)
    · rintro (z | z | ⟨i, xs, z1, z2⟩)
      · rcases (he b).mp z with z | z | z
        · exact .inl z
        · exact .inr (.inl (.inl z))
        · exact .inr (.inl (.inr z))
      · rw [hdk] at z; exact z.elim
      · exact .inr (.inr ⟨i, xs, z1, by rw [← ha]; exact z2⟩)
  have hp0 : g.H0 p = none := by
    cases z : g.H0 p with
    | none => rfl
    | some o => exact absurd hp (S.kept p (some_ne z))
  have hq0 : g.H0 q = none := by
    cases z : g.H0 q with
    | none => rfl
    | some o => exact absurd hq (S.kept q (some_ne z))
  have mv : Mv H3 (upd H3 p (.dK [((Sum.inr f : Key), .ref q), (Sum.inr "mixed", .int m), (Sum.inr "draws", .int d)])) (g3.Ex t) (Gh.Ex { g with dk := some (p, q) } t) := ⟨fun b o h _ nb => by
    rw [upd_ne (fun z => nb (.inl ((he b).mpr (.inr (.inl z)))))]; exact h, fun b z => .inl ((hx b).mp z), fun b z => ne_upd z⟩
  refine ⟨⟨fun b o h hn nd => ?_, fun b z => ne_upd (S3.kept b (by rw [h0]; exact z)), tabs_upd S3.tab (fun u hu => by rw [hp3] at hu; cases hu; rfl), fun h d E q => ?_, ⟨hpq, upd_same, by rw [upd_ne (Ne.symm hpq)]; exact hq3, hl⟩, fun b z => ?_, fun b z => ?_, S.len, fun i s h nn => ?_, fun i xs h => ?_, S.inj⟩, ⟨rfl, rfl, .inr ⟨hg, ?_⟩, ?_⟩⟩
  · rw [upd_ne (fun z => nd (.inl z))]
    exact S3.fr b o (by rw [h0]; exact h) hn (by rw [hdk]; exact fun z => z)
  · obtain ⟨h1, h2, h3⟩ := S.was h d E q
    refine ⟨h1, h2, .inr ⟨?_, fun b z => ?_⟩⟩
    · rcases h3 with h3 | ⟨h3, _⟩
      · exact h3.symm.trans hg
      · exact h3
    · rw [← show g.H0 = h from h1]
      rcases z with rfl | rfl
      · exact hp0
      · exact hq0
  · by_cases e : b = p
    · rw [e, upd_same]; exact fun z => by cases z
    · rw [upd_ne e]; exact S3.ex b ((he b).mpr (.inl z))
  · rintro (rfl | rfl)
    · exact S.ex _ z hp
    · exact S.ex _ z hq
  · obtain ⟨v, h1, h2⟩ := S3.sl i s h nn
    exact ⟨v, h1, h2.mv mv fun pr z => by rw [hdk] at z; cases z⟩
  · obtain ⟨h1, h2, h3, vs, h4, h5⟩ := S3.own i xs h
    obtain ⟨_, _, _, ws, h6, _⟩ := S.own i xs h
    rw [ha] at h1 h2 h4
    have np : g.ad i ≠ p := fun z => by rw [z, hp] at h6; cases h6
    have nq : g.ad i ≠ q := fun z => by rw [z, hq] at h6; cases h6
    exact ⟨h1, by rw [h0] at h2; exact h2, fun z => by rcases z with z | z; exact np z; exact nq z, vs, by rw [upd_ne np]; exact h4, h5.mv mv⟩
  · rintro b (rfl | rfl)
    · exact hp0
    · exact hq0
  · refine ⟨fun b o h hn nb => ?_, fun b z => ?_, fun b z => ne_upd (hne b z)⟩
    · rw [upd_ne (fun z => by rw [z, hp] at h; cases h)]; exact hk b o h hn
    · rcases z with z | z | z
      · exact .inl (.inl z)
      · rcases z with rfl | rfl
        · exact .inr hp
        · exact .inr hq
      · exact .inl (.inr (.inr z))
theorem s_dkRet {keys : List (Option Expr)} {vals : List Expr} (hkk : keys = [some (.Constant (.str f) k1 p1), some (.Constant (.str "mixed") k2 p2), some (.Constant (.str "draws") k3 p3)]) (hvv : vals = [a, b, c])
    (ha : PE X a (tF V0 W ia)) (hb : SE V0 W X b ib) (hc : SE V0 W X c ic) : PS X (.Return (some (.Dict keys vals ps)) pos) (tS V0 W (.dkRet f ia ib ic)) := by
  subst hkk hvv
  have hD := pe_disp (pos := ps) (pps_cons (k := .Constant (.str f) k1 p1) pe_str ha (pps_cons (k := .Constant (.str "mixed") k2 p2) pe_str hb.pd (pps_cons (k := .Constant (.str "draws") k3 p3) pe_str hc.pd pps_nil))) rfl rfl (by simp) (by simp)
  refine psImp (ps_ret hD) fun D σ H => ?_
  rintro ⟨g, t, k, hg, S, pp⟩
  have p0 : PostS V0 W g t H ((evI V0.G t true ia k).thn t fun s k => (dl t ib k (ev V0.G t ib k)).thn t fun m k => (dl t ic k (ev V0.G t ic k)).thn t fun d k => match (generalizing := false) s, m, d, k with
    | .own xs, .int m, .int d, none => if f = "mixed" ∨ f = "draws" then .no else (match intsD xs with
      | some ns => if ns.length ≤ 1000 then .ok (.rt .deck) t (some ⟨f, ns, m, d⟩) else .no
      | none => .no)
    | _, _, _, _ => .no) D := pp
  intro p hp
  have SH := S.held (u := .dK []) hp
  have e0 : Ext g.dk g.dk H (upd H p (.dK [])) := (Ext.all (upd_keep hp))
  refine ⟨g.hold p, t, k, SH, ?_⟩
  revert p0
  have eI : evI V0.G t true ia k = (ev V0.G t ia k).bind fun s k => opt (ownS s) k := rfl
  rw [eI]
  cases ev V0.G t ia k with
  | no => exact fun p0 => p0.elim
  | ex c x kx => exact fun p0 d H1 d1 v e1 S1 r hx => p0 _ σ H1 d v (stp_of S (e0.trans e1)) S1.freed (r.same fun b z => (hold_ex _ p b t).mpr (.inl z)) (hx.same fun b z => (hold_ex _ p b t).mpr (.inl z))
  | ok s1 kk1 =>
  cases s1 with
  | d x => cases x with
    | list xs =>
      intro p1 q vs H1 d1 hq e1 S1 hv r1
      have e1 : Ext g.dk d1 (upd H p (.dK [])) H1 := e1
      have p1 : PostS V0 W g t H ((dl t ib kk1 (ev V0.G t ib kk1)).thn t fun m k => (dl t ic k (ev V0.G t ic k)).thn t fun d k => match (generalizing := false) Sl.own xs, m, d, k with
        | .own xs, .int m, .int d, none => if f = "mixed" ∨ f = "draws" then .no else (match intsD xs with
          | some ns => if ns.length ≤ 1000 then .ok (.rt .deck) t (some ⟨f, ns, m, d⟩) else .no
          | none => .no)
        | _, _, _, _ => .no) D := p1
      refine ⟨((g.hold p).at d1).hold q, t, kk1, S1, ?_⟩
      revert p1
      show _ → PostR V0 W _ σ t H1 (dl t ib kk1 (ev V0.G t ib kk1)) _ _
      have eA := e0.trans e1
      cases dl t ib kk1 (ev V0.G t ib kk1) with
      | no => exact fun p1 => p1.elim
      | ex c x kx => exact fun p1 d H2 d2 v e2 S2 r hx => p1 (g.at d2) σ H2 d v (stp_of S (eA.trans e2)) S2.freed.freed (r.same fun b z => (hold_ex _ q b t).mpr (.inl ((hold_ex _ p b t).mpr (.inl z)))) (hx.same fun b z => (hold_ex _ q b t).mpr (.inl ((hold_ex _ p b t).mpr (.inl z))))
      | ok m kk2 =>
      intro p2 w H2 d2 e2 S2 r2
      have e2 : Ext d1 d2 H1 H2 := e2
      have p2 : PostS V0 W g t H ((dl t ic kk2 (ev V0.G t ic kk2)).thn t fun d k => match (generalizing := false) Sl.own xs, m, d, k with
        | .own xs, .int m, .int d, none => if f = "mixed" ∨ f = "draws" then .no else (match intsD xs with
          | some ns => if ns.length ≤ 1000 then .ok (.rt .deck) t (some ⟨f, ns, m, d⟩) else .no
          | none => .no)
        | _, _, _, _ => .no) D := p2
      refine ⟨(((g.hold p).at d1).hold q).at d2, t, kk2, S2, ?_⟩
      revert p2
      show _ → PostR V0 W _ σ t H2 (dl t ic kk2 (ev V0.G t ic kk2)) _ _
      have eB := eA.trans e2
      cases dl t ic kk2 (ev V0.G t ic kk2) with
      | no => exact fun p2 => p2.elim
      | ex c x kx => exact fun p2 d H3 d3 v e3 S3 r hx => p2 (g.at d3) σ H3 d v (stp_of S (eB.trans e3)) (S3.freed (g := (g.at d3).hold p)).freed (r.same fun b z => (hold_ex ((g.at d3).hold p) q b t).mpr (.inl ((hold_ex _ p b t).mpr (.inl z)))) (hx.same fun b z => (hold_ex ((g.at d3).hold p) q b t).mpr (.inl ((hold_ex _ p b t).mpr (.inl z))))
      | ok d kk3 =>
      intro p3 y H3 d3 e3 S3 r3
      have e3 : Ext d2 d3 H2 H3 := e3
      have eC := eB.trans e3
      cases kk3 with
      | some _ => cases m <;> cases d <;> exact p3.elim
      | none =>
      have hd3 : d3 = none := S3.dkr.none_of
      have hgd : g.dk = none := by
        rcases eC.dk with z | ⟨z, _⟩
        · rw [← z, hd3]
        · exact z
      cases m with
      | int m => cases d with
        | int d =>
          have p3 : PostS V0 W g t H (if f = "mixed" ∨ f = "draws" then .no else (match intsD xs with
            | some ns => if ns.length ≤ 1000 then .ok (.rt .deck) t (some ⟨f, ns, m, d⟩) else .no
            | none => .no)) D := p3
          by_cases hf : f = "mixed" ∨ f = "draws"
          · rw [if_pos hf] at p3; exact p3.elim
          rw [if_neg hf] at p3
          have hf1 : f ≠ "mixed" := fun z => hf (.inl z)
          have hf2 : f ≠ "draws" := fun z => hf (.inr z)
          cases hi : intsD xs with
          | none => rw [hi] at p3; exact p3.elim
          | some ns =>
          rw [hi] at p3
          have p3 : PostS V0 W g t H (if ns.length ≤ 1000 then .ok (.rt .deck) t (some ⟨f, ns, m, d⟩) else .no) D := p3
          by_cases hl : ns.length ≤ 1000
          case neg => rw [if_neg hl] at p3; exact p3.elim
          rw [if_pos hl] at p3
          obtain rfl := relD_int r2
          obtain rfl := relD_int r3
          have hvs : vs = ns.map V.int := r1.ints hi
          subst hvs
          have nd : ∀ {dd : Da}, dd = none → ∀ b, ¬ isDk dd b := fun h b z => by rw [h] at z; exact z
          have hd1 : d1 = none := by
            rcases e3.dk with z | ⟨z, _⟩
            · rcases e2.dk with w | ⟨w, _⟩
              · rw [← w, ← z, hd3]
              · exact w
            · rcases e2.dk with w | ⟨w, _⟩
              · rw [← w]; exact z
              · exact w
          have hd2 : d2 = none := by
            rcases e3.dk with z | ⟨z, _⟩
            · rw [← z, hd3]
            · exact z
          have hp1 : H1 p = some (.dK []) := e1.keep p _ upd_same rfl (nd hgd p)
          have hp2 := e2.keep p _ hp1 rfl (nd hd1 p)
          have hp3 := e3.keep p _ hp2 rfl (nd hd2 p)
          have hq2 := e2.keep q _ hv rfl (nd hd1 q)
          have hq3 := e3.keep q _ hq2 rfl (nd hd2 q)
          have hpq : p ≠ q := fun z => by rw [← z, upd_same] at hq; cases hq
          have hq0 : H q = none := by rw [upd_ne (Ne.symm hpq)] at hq; exact hq
          obtain ⟨S4, s4⟩ := Sim.deckOf (f := f) (m := m) (d := d) (g3 := ((((g.hold p).at d1).hold q).at d2).at d3) S hp hq0 hpq hgd hd3 rfl rfl (fun b => ⟨fun z => by
            rcases z with (z | z) | z
            · exact .inl z
            · exact .inr (.inl z)
            · exact .inr (.inr z), fun z => by
            rcases z with z | z | z
            · exact .inl (.inl z)
            · exact .inl (.inr z)
            · exact .inr z⟩) S3 (fun b o h hn => eC.keep b o h hn (nd hgd b)) eC.ne hp3 hq3 hl
          refine ⟨hp3, [(Sum.inr f, .ref q), (Sum.inr "mixed", .int m), (Sum.inr "draws", .int d)], rfl, by simp, ?_⟩
          rw [mergeK_deck hf1 hf2]
          exact p3 _ σ _ s4 S4 _ ⟨p, q, rfl, rfl⟩
        | _ => exact p3.elim
      | _ => cases d <;> exact p3.elim
    | _ => exact fun p0 => p0.elim
  | _ => exact fun p0 => p0.elim
end
end Q

namespace Q
open PySem PySem.Spec PyProof.Rows L2
theorem start_len {N : List Str} {vs : List V} (h : vs.length ≤ N.length) : (L2.start N vs).length = N.length := by
  unfold L2.start
  rw [List.length_append, List.length_map, List.length_replicate]; omega
theorem paired_get {α β : Type} {F : α → β → Prop} : ∀ {l : List α} {m : List β} {i : Nat} {b : β}, Paired F l m → m[i]? = some b → ∃ a, l[i]? = some a ∧ F a b
  | _, _, _, _, .nil, h => by simp at h
  | _, _, 0, _, .cons r _, h => by simp at h; subst h; exact ⟨_, rfl, r⟩
  | _, _, i + 1, b, .cons _ t, h => by
    obtain ⟨a, h1, h2⟩ := paired_get (i := i) (b := b) t (by simpa using h)
    exact ⟨a, by simpa using h1, h2⟩
theorem init_get {ss : List Sl} {m i : Nat} {s : Sl} (h : (ss.map some ++ List.replicate m none)[i]? = some (some s)) : ss[i]? = some s := by
  by_cases hi : i < ss.length
  · rw [List.getElem?_append_left (by simpa using hi), List.getElem?_map] at h
    cases e : ss[i]? with
    | none => rw [e] at h; cases h
    | some z => rw [e] at h; cases h; rfl
  · rw [List.getElem?_append_right (by simpa using Nat.le_of_not_lt hi), List.getElem?_replicate] at h
    split at h <;> cases h
theorem start_get {N : List Str} {vs : List V} {i : Nat} {v : V} (h : vs[i]? = some v) : (L2.start N vs)[i]? = some (some v) := by
  have hi : i < vs.length := by
    by_cases hi : i < vs.length
    · exact hi
    · rw [List.getElem?_eq_none (Nat.le_of_not_lt hi)] at h; cases h
  unfold L2.start
  rw [List.getElem?_append_left (by simpa using hi), List.getElem?_map, h]; rfl
section
variable {V0 : Ev} {W : WX} {g : Gh} {H : Hp} {t : Tau}
/-- behind a body -/
theorem ext_of {g' : Gh} {t' : Tau} {H' : Hp} {σ' : L2.St} {k' : Ds} (h0 : g.H0 = H) (s : Stp g t H g' t' H') (S : Sim V0.K V0.cl g' H' σ' t' k') : Ext g.dk g'.dk H H' := by
  refine ⟨fun b o h hn nd => S.fr b o (by rw [s.h0, h0]; exact h) hn fun z => ?_, ?_, fun b h => S.kept b (by rw [s.h0, h0]; exact h)⟩
  · rcases s.dk with w | ⟨_, w⟩
    · rw [w] at z; exact nd z
    · have := w b z
      rw [h0, h] at this; cases this
  · rcases s.dk with w | ⟨w1, w2⟩
    · exact .inl w
    · exact .inr ⟨w1, fun b z => by have := w2 b z; rw [h0] at this; exact this⟩
end
/-- a def keeps what its body computes -/
theorem fn_ok {V0 : Ev} {P : Program} {w : World} {mg : Str → Option Value} {base : Heap} {d : He.DefD} {fa : Addr} {fd : FuncData} {N ps : List Str} {n : Nat} {ib : List IS} (F : FunD V0.K d.name d.qual d.params d.body d.scope [] [] fa fd) (S : FnScope N ps d.scope) (hsys : SysM V0.K) (hcp : V0.cl.P = P) (hcw : V0.cl.w = w) (hno : V0.cl.h0 = none) (hpl : ps.length ≤ N.length)
    (hb : ∀ (cd : Value), fd.code = cd → ∀ (B : Around) (fr : List Env) (s : Shared) (H : Hp) (E : XK), Cq V0 (fun c x _ H => E c x H) (cxOf (L2.CX P w) P w V0.K mg base N d.qual d.scope fa cd B fr s H E) n →
      PassesOwn (model P w) (cxOf (L2.CX P w) P w V0.K mg base N d.qual d.scope fa cd B fr s H E).A (cxOf (L2.CX P w) P w V0.K mg base N d.qual d.scope fa cd B fr s H E).env (cxOf (L2.CX P w) P w V0.K mg base N d.qual d.scope fa cd B fr s H E).xe →
      PSs (cxOf (L2.CX P w) P w V0.K mg base N d.qual d.scope fa cd B fr s H E) d.body (tSs V0 (fun c x _ H => E c x H) ib)) :
    Fq P w V0.K mg base (n + 1) fa fd ps (spQ V0.K V0.cl V0.fld (run V0.G ⟨ps.length, N.length, ib⟩) ps.length) := by
  refine fq_of F S (fun vs H Q E h => spQ_len h) fun cd hcd B fr s H vs Q E rq hsp => ?_
  refine ⟨_, hb cd hcd B fr s H E ⟨rfl, rfl, rq, hsys, S.nd, takes_of rfl rfl rfl rfl, hcp, hcw⟩ (passes_of rfl), ?_⟩
  have hvl := spQ_len hsp
  obtain ⟨E0, dk, ss, k, hl, hd, htb, h1, h2, r, p⟩ := hsp
  have noown : ∀ (i : Nat) (xs : List D), (ss.map some ++ List.replicate (N.length - ps.length) none)[i]? = some (some (.own xs)) → False := fun i xs h => by
    obtain ⟨v, _, q⟩ := paired_get r (init_get h)
    exact q
  have hx : ∀ b, (⟨H, E0, fun _ => 0, dk⟩ : Gh).Ex (ss.map some ++ List.replicate (N.length - ps.length) none) b ↔ Ux E0 dk b := fun b => by
    constructor
    · rintro (z | z | ⟨i, xs, z, _⟩)
      · exact .inl z
      · exact .inr z
      · exact (noown i xs z).elim
    · rintro (z | z)
      · exact .inl z
      · exact .inr (.inl z)
  have S0 : Sim V0.K V0.cl ⟨H, E0, fun _ => 0, dk⟩ H (L2.start N vs) (ss.map some ++ List.replicate (N.length - ps.length) none) k := by
    refine ⟨fun b o h _ _ => h, fun b h => h, htb, fun h d E q => (by rw [hno] at q; cases q), hd, h1, h2, ?_, fun i s' h _ => ?_, fun i xs h => (noown i xs h).elim, fun i _ xs _ _ h => (noown i xs h).elim⟩
    · rw [start_len (by omega), List.length_append, List.length_map, List.length_replicate, hl]; omega
    · obtain ⟨v, q1, q2⟩ := paired_get r (init_get h)
      exact ⟨v, start_get q1, q2.same fun b z => (hx b).mp z⟩
  refine ⟨⟨H, E0, fun _ => 0, dk⟩, ss.map some ++ List.replicate (N.length - ps.length) none, k, h1, S0, ?_⟩
  have p0 : PostC V0.K V0.cl V0.fld E0 dk H (if ss.length = ps.length then (match execs V0.G ib (ss.map some ++ List.replicate (N.length - ps.length) none) k with
    | .ok .nx _ k => .ok (.d .none) k
    | .ok (.rt s) _ k => .ok s k
    | .ex c x _ k => .ex c x k
    | _ => .no) else .no) Q E := p
  rw [if_pos hl] at p0
  show PostS V0 _ _ _ H (execs V0.G ib (ss.map some ++ List.replicate (N.length - ps.length) none) k) _
  revert p0
  cases execs V0.G ib (ss.map some ++ List.replicate (N.length - ps.length) none) k with
  | no => exact fun p => p.elim
  | ex c x t' k' =>
    intro p0 g' σ' H' dd v st S' rx hx'
    exact p0 v H' g'.dk dd (ext_of rfl st S') S'.dkr S'.tab (rx.same fun b z => by
      rcases z with z | z
      · exact .inl (by rw [st.e0]; exact z)
      · exact .inr (.inl z)) (hx'.same fun b z => by
      rcases z with z | z
      · exact .inl (by rw [st.e0]; exact z)
      · exact .inr (.inl z))
  | ok f t' k' =>
    cases f with
    | nx => exact fun p0 g' σ' H' st S' => p0 .non H' g'.dk (ext_of rfl st S') S'.dkr S'.tab .non
    | bk => exact fun p0 => p0.elim
    | ct => exact fun p0 => p0.elim
    | rt s' =>
      intro p0 g' σ' H' st S' v rv
      exact p0 v H' g'.dk (ext_of rfl st S') S'.dkr S'.tab (rv.same fun b z => by
        rcases z with z | z
        · exact .inl (by rw [st.e0]; exact z)
        · exact .inr (.inl z))
theorem run_len {G : Gx} {d : Df} {ss : List Sl} {k : Ds} (h : ss.length ≠ d.ar) : run G d ss k = .no := by
  unfold run
  rw [if_neg h]
/-- [..][::-1], a new list -/
theorem pf_revl {V0 : Ev} {W : WX} {X : Cx} {a : Expr} {ia : IE} {pos : Pos} {kk : Nat} {p1 p2 p3 : Pos} (hK : V0.K = X.K) (ha : SE V0 W X a ia) : PE X (.Subscript a (.Slice none none (some (.UnaryOp .USub (.Constant (.int 1) kk p1) p2)) p3) pos) (tF V0 W (.revl ia)) := peImp (pe_revL ha.pd) fun σ H Q => by
  rintro ⟨g, t, k, S, p⟩
  refine tEd_of S (PostF.bind S p fun x k1 v H1 d1 e1 S1 r1 p1 => ?_)
  have q := r1.sh S1
  cases x with
  | list xs =>
    obtain ⟨a, vs, rfl, h1, h2⟩ := sh_lst q
    rw [hK] at h1
    exact ⟨a, vs, rfl, h1, PostF.lst S1 p1 h2.reverse⟩
  | _ => exact p1.elim
end Q

namespace Q
open PySem PySem.Spec PyProof.Rows L2
/-! ### the head: what is read of the heap behind the top -/
abbrev AlQ : Type := He.AlD × Bool
/-- the addresses are written down (found once, by the kernel) -/
def obQ (as : List Addr) (fa : List He.Fa) (fn : List He.DefD) (fx : PySem.W.Frag → Bool) (g : Addr → Option Obj) : AlQ := (He.obsD fa fn (He.frG g as), fx (He.frG g as))
def hookQ (as : List Addr) (fa : List He.Fa) (fn : List He.DefD) (fx : PySem.W.Frag → Bool) : PySem.W.Hook where
  α := AlQ
  obs := fun s => obQ as fa fn fx s.heap.get?
  val := fun _ => (He.valD fn, true)
  says := fun _ h => ∃ K : PySem.W.Frag, K.In h ∧ He.SaysD fa fn K ∧ fx K = true
  of := fun _ _ e => ⟨_, He.frG_in, congrArg Prod.fst e, congrArg Prod.snd e⟩
  keeps := fun _ _ _ ⟨K, hK, c⟩ k => ⟨K, PySem.W.Frag.In.keeps hK k, c⟩
def sysB (K : PySem.W.Frag) : Bool := match K.lookup sysModules with
  | some o => decide (o.cls = .type "dict")
  | none => false
theorem sysB_ok {K : PySem.W.Frag} (h : sysB K = true) : SysM K := by
  unfold sysB at h
  cases e : K.lookup sysModules with
  | none => rw [e] at h; cases h
  | some o => rw [e] at h; exact ⟨o, e, of_decide_eq_true h⟩
/-! ### the end -/
theorem cx_none {P : Program} {w : World} {H : Hp} {s : Shared} {e : Value} {s' : Shared} (h : L2.CX P w [] H s (fun _ _ _ => False) e s') : False := by
  obtain ⟨_, _, _, _, _, _, _, _, _, _, _, _, q⟩ := h
  exact q
end Q

namespace Q
open PySem PySem.Spec PyProof.Rows L2
/-! ### short forms, with tests that one can reckon -/
def visB (sc : Scope) (x : Str) : Bool := match sc.names.lookup x with
  | some .local => true
  | some .cell => true
  | some .free => true
  | _ => false
theorem vis_ok {sc : Scope} {x : Str} (h : visB sc x = true) : Vis sc x := by
  unfold visB at h
  unfold Vis
  revert h
  cases sc.names.lookup x with
  | none => intro h; cases h
  | some k => cases k <;> intro h <;> first | (cases h; done) | exact .inl rfl | exact .inr (.inl rfl) | exact .inr (.inr rfl) | exact .inr rfl
def locB (sc : Scope) (x : Str) : Bool := match sc.names.lookup x with
  | some .local => true
  | some .cell => true
  | _ => false
theorem loc_ok {sc : Scope} {x : Str} (h : locB sc x = true) : L2.Loc sc x := by
  unfold locB at h
  unfold L2.Loc
  revert h
  cases sc.names.lookup x with
  | none => intro h; cases h
  | some k => cases k <;> intro h <;> first | (cases h; done) | exact .inl rfl | exact .inr (.inl rfl) | exact .inr (.inr rfl) | exact .inr rfl
section
variable {V0 : Ev} {W : WX} {X : Cx} {n : Nat} {a b c e : Expr} {es : List Expr} {ia ib ic ie : IE} {ies : List IE} {pos : Pos} {x : Str}
theorem pv' (i : Nat) (hN : X.N[i]? = some x := by rfl) (hv : visB X.env.scope x = true := by rfl) (hd : (x == ("__debug__" : Str)) = false := by rfl) (hcd : (x == ("__classdict__" : Str)) = false := by rfl) : PE X (.Name x pos) (tVar i) := pe_var hN (vis_ok hv) hd hcd
theorem nm (i : Nat) (hN : X.N[i]? = some x := by rfl) (hv : visB X.env.scope x = true := by rfl) (hd : (x == ("__debug__" : Str)) = false := by rfl) (hcd : (x == ("__classdict__" : Str)) = false := by rfl) : SE V0 W X (.Name x pos) (.var i) := se_nm (pe_var hN (vis_ok hv) hd hcd)
theorem ci {i : Int} {j : Nat} : SE V0 W X (.Constant (.int i) j pos) (.con (.int i)) := SE.mk' (pe_con pe_int fun _ _ _ => .int _) (fun i q => by cases q)
theorem cs {i : Str} {j : Nat} : SE V0 W X (.Constant (.str i) j pos) (.con (.str i)) := SE.mk' (pe_con pe_str fun _ _ _ => .str _) (fun i q => by cases q)
theorem cb {i : Bool} {j : Nat} : SE V0 W X (.Constant (.bool i) j pos) (.con (.bool i)) := SE.mk' (pe_con pe_bl fun _ _ _ => .bl _) (fun i q => by cases q)
theorem cn {j : Nat} : SE V0 W X (.Constant .none j pos) (.con .none) := SE.mk' (pe_con pe_non fun _ _ _ => .non) (fun i q => by cases q)
theorem sand {rest : List Expr} (ha : SE V0 W X a ia) (h : SE V0 W X (.BoolOp .And (b :: rest) pos) ib ∧ PW X (.BoolOp .And (b :: rest) pos) (tEt V0 W ib)) : SE V0 W X (.BoolOp .And (a :: b :: rest) pos) (.and_ ia ib) ∧ PW X (.BoolOp .And (a :: b :: rest) pos) (tEt V0 W (.and_ ia ib)) := se_and ha h.1 h.2
theorem sor {rest : List Expr} (ha : SE V0 W X a ia) (h : SE V0 W X (.BoolOp .Or (b :: rest) pos) ib ∧ PW X (.BoolOp .Or (b :: rest) pos) (tEt V0 W ib)) : SE V0 W X (.BoolOp .Or (a :: b :: rest) pos) (.or_ ia ib) ∧ PW X (.BoolOp .Or (a :: b :: rest) pos) (tEt V0 W (.or_ ia ib)) := se_or ha h.1 h.2
theorem ix (hK : V0.K = X.K) (ha : SE V0 W X a ia) (hb : SE V0 W X b ib) (hs : PlainIx b := by intro _ _; rfl) : SE V0 W X (.Subscript a b pos) (.idx ia ib) := se_idx hK hs ha hb
theorem cmp {op : CmpOp} (C : Cq V0 W X n) (ha : SE V0 W X a ia) (hb : SE V0 W X b ib) (hm : behindInMarks op b = false := by first | exact nomark _ | with_unfolding_all rfl) : SE V0 W X (.Compare a [op] [b] pos) (.cmp op ia ib) := se_cmp C.K C.un hm ha hb
theorem chn {o p : CmpOp} (C : Cq V0 W X n) (ha : SE V0 W X a ia) (hb : SE V0 W X b ib) (hc : SE V0 W X c ic) (hm : lastMarks [o, p] [b, c] = false := by with_unfolding_all rfl) : SE V0 W X (.Compare a [o, p] [b, c] pos) (.chain o p ia ib ic) := se_chain C.K C.un hm ha hb hc
theorem bfn {bt : Bt} {id : String} {p : Pos} (C : Cq V0 W X n) (hv : bltV bt = .builtin id) (hb : bootBuiltins x = some (.builtin id)) (hm : X.mg x = none) (ha : PA X (e :: es) (tEds V0 W ies)) (hg : Gl X x := by rfl) (hn : x ≠ "__name__" := by decide) (hdb : (x == ("__debug__" : Str)) = false := by decide)
    (he : starEach (e :: es) X.env = (false, eval e X.env) :: starEach es X.env := by rfl) (hpl : (backTo pos (starEach es X.env)).any (·.1) = false := by rfl) : SE V0 W X (.Call (.Name x p) (e :: es) [] pos) (.blt bt ies) := se_bltf C hv hb hg hm ha hn hdb he hpl
theorem bty {bt : Bt} {id : String} {p : Pos} (C : Cq V0 W X n) (hv : bltV bt = .type id) (hb : bootBuiltins x = some (.type id)) (hm : X.mg x = none) (ha : PA X (e :: es) (tEds V0 W ies)) (hg : Gl X x := by rfl) (hn : x ≠ "__name__" := by decide) (hdb : (x == ("__debug__" : Str)) = false := by decide)
    (he : starEach (e :: es) X.env = (false, eval e X.env) :: starEach es X.env := by rfl) (hpl : (backTo pos (starEach es X.env)).any (·.1) = false := by rfl) : SE V0 W X (.Call (.Name x p) (e :: es) [] pos) (.blt bt ies) := se_bltt C hv hb hg hm ha hn hdb he hpl
theorem isi {y : Ty} {p p2 : Pos} {T : Str} (C : Cq V0 W X n) (hv : bootBuiltins T = some (.type (tyN y))) (hmT : X.mg T = none) (hm : X.mg "isinstance" = none) (ha : SE V0 W X a ia) (hgT : Gl X T := by rfl) (hg : Gl X "isinstance" := by rfl)
    (hnT : T ≠ "__name__" := by decide) (hdT : (T == ("__debug__" : Str)) = false := by decide) (he : starEach (a :: [.Name T p2]) X.env = (false, eval a X.env) :: starEach [.Name T p2] X.env := by rfl) : SE V0 W X (.Call (.Name "isinstance" p) [a, .Name T p2] [] pos) (.isi y ia) := se_isi C hv hgT hmT hg hm ha hnT hdT he
theorem cal {d : He.DefD} {ps : List Str} {f : Nat} {p : Pos} (C : Cq V0 W X n) (F : Fn X.K V0.cl V0.fld X.prog X.w X.mg X.base n (V0.G.phi f) ps d)
    (hb : ∀ (kV doc pm : Value) (an : Option Addr) (cdv ct : Value) (us : List Value), us.length = ps.length → bindArgs (PySem.W.fnOf d.name d.qual d.params d.body d.scope .none kV doc pm an cdv ct) ⟨us, []⟩ = pure (ps.zip us)) (ha : PA X (e :: es) (tEs V0 W ies)) (hg : Gl X d.name := by rfl)
    (hdb : (d.name == ("__debug__" : Str)) = false := by decide) (he : starEach (e :: es) X.env = (false, eval e X.env) :: starEach es X.env := by rfl) (hpl : (backTo pos (starEach es X.env)).any (·.1) = false := by rfl) :
    SE V0 W X (.Call (.Name d.name p) (e :: es) [] pos) (.call f ies) := se_call C F hg ha hb hdb he hpl
theorem asg {i : Nat} {pos' : Pos} (C : Cq V0 W X n) (he : SE V0 W X e ie) (hi : X.N[i]? = some x := by rfl) (hx : locB X.env.scope x = true := by rfl) (hf : X.fn x = true ∨ X.env.scope.names.lookup x = some .local := by first | exact .inl rfl | exact .inr rfl) (hs : swapsWith e (some (.Name x pos')) pos.line X.env = pure false := by rfl) :
    PS X (.Assign [.Name x pos'] e pos) (tS V0 W (.asg i ie)) := s_asg C.nd hi (loc_ok hx) hf he hs
theorem own {i : Nat} {pos' : Pos} (C : Cq V0 W X n) (he : PE X e (tF V0 W ie)) (hi : X.N[i]? = some x := by rfl) (hx : locB X.env.scope x = true := by rfl) (hf : X.fn x = true ∨ X.env.scope.names.lookup x = some .local := by first | exact .inl rfl | exact .inr rfl) (hs : swapsWith e (some (.Name x pos')) pos.line X.env = pure false := by rfl) :
    PS X (.Assign [.Name x pos'] e pos) (tS V0 W (.own i ie)) := s_own C.nd hi (loc_ok hx) hf he hs
theorem tgn {i : Nat} (C : Cq V0 W X n) (hi : X.N[i]? = some x := by rfl) (hx : locB X.env.scope x = true := by rfl) (hf : X.fn x = true ∨ X.env.scope.names.lookup x = some .local := by first | exact .inl rfl | exact .inr rfl) : PG X (.Name x pos) (tGt V0 (.name i)) := sg_name C.nd hi (loc_ok hx) hf
end
end Q

namespace Q
open PySem PySem.Spec PyProof.Rows L2
section
variable {K : PySem.W.Frag} {cl : Cls} {fld : Str → Str} {P : Program} {w : World} {mg : Str → Option Value} {base : Heap} {n : Nat} {d : He.DefD} {N ps : List Str} {ib : List IS} {fa : Addr} {fd : FuncData}
/-- no depth: nothing is promised -/
theorem fn_zero {phi : List Sl → Ds → Rs Sl} (hp : ∀ ss k, phi ss k = .no) (hm : mg d.name = some (.ref fa)) (hD : FunD K d.name d.qual d.params d.body d.scope [] [] fa fd) : Fn K cl fld P w mg base n phi ps d := by
  refine ⟨⟨fa, fd, hm, hD, fun vs H Q E h => spQ_len h, fun B fr s H ar us vs Q E _ _ _ _ h => ?_⟩, fun ss k _ => hp ss k⟩
  obtain ⟨E0, dk, ss, k, _, _, _, _, _, _, p⟩ := h
  rw [hp] at p
  exact p.elim
/-- one depth more -/
theorem fn_succ {phi : List Sl → Ds → Rs Sl} {G : Gx} (hp : ∀ ss k, phi ss k = run G ⟨ps.length, N.length, ib⟩ ss k) (hm : mg d.name = some (.ref fa)) (hD : FunD K d.name d.qual d.params d.body d.scope [] [] fa fd) (S : FnScope N ps d.scope) (hsys : SysM K) (hcp : cl.P = P) (hcw : cl.w = w) (hno : cl.h0 = none) (hpl : ps.length ≤ N.length)
    (hb : ∀ (cd : Value) (B : Around) (fr : List Env) (s : Shared) (H : Hp) (E : XK), Cq ⟨K, cl, fld, G⟩ (fun c x _ H => E c x H) (cxOf (L2.CX P w) P w K mg base N d.qual d.scope fa cd B fr s H E) n →
      PassesOwn (model P w) (cxOf (L2.CX P w) P w K mg base N d.qual d.scope fa cd B fr s H E).A (cxOf (L2.CX P w) P w K mg base N d.qual d.scope fa cd B fr s H E).env (cxOf (L2.CX P w) P w K mg base N d.qual d.scope fa cd B fr s H E).xe →
      PSs (cxOf (L2.CX P w) P w K mg base N d.qual d.scope fa cd B fr s H E) d.body (tSs ⟨K, cl, fld, G⟩ (fun c x _ H => E c x H) ib)) : Fn K cl fld P w mg base (n + 1) phi ps d := by
  have e : phi = run G ⟨ps.length, N.length, ib⟩ := funext fun ss => funext fun k => hp ss k
  subst e
  exact ⟨⟨fa, fd, hm, hD, fn_ok (V0 := ⟨K, cl, fld, G⟩) hD S hsys hcp hcw hno hpl fun cd _ => hb cd⟩, fun ss k h => run_len h⟩
/-- the law's promise, for some fuel -/
def spL (K : PySem.W.Frag) (cl : Cls) (fld : Str → Str) (phi : Nat → List Sl → Ds → Rs Sl) : Sp := fun vs H Q E => ∃ fuel, spQ K cl fld (phi fuel) 1 vs H Q E
theorem spL_len {phi : Nat → List Sl → Ds → Rs Sl} {vs : List V} {H : Hp} {Q : VK} {E : XK} (h : spL K cl fld phi vs H Q E) : vs.length = 1 := by
  obtain ⟨_, h⟩ := h
  exact spQ_len h
/-- the law answers true at every script -/
theorem law_sp {phi : Nat → List Sl → Ds → Rs Sl} {H : Hp} {a : Addr} {ns : List Int} (ht : LamX.Tabs cl.T H) (hS : SqL K H a (ns.map V.int)) (h : ∃ fuel k, phi fuel [.d (.list (ns.map PyData.int))] none = .ok (.d (.bool true)) k) : spL K cl fld phi [.ref a] H (fun v _ => v = .bl true) fun _ _ _ => False := by
  obtain ⟨fuel, k, e⟩ := h
  refine ⟨fuel, fun _ => False, none, [.d (.list (ns.map PyData.int))], none, rfl, trivial, ht, fun _ z => z.elim, fun _ z => z.elim, .cons (.lst ?_ (rpA_ints ns)) .nil, ?_⟩
  · rcases hS with h | h
    · exact .inl ⟨h, fun z => z.elim (fun q => q) fun q => q⟩
    · exact .inr h
  · rw [e]
    exact fun v H' d' _ _ _ r => rp_bool r
theorem funD_eq {fd' : FuncData} {x qual : Str} {pa : Arguments} {bo : List Stmt} {sc : Scope} (h : FunD K x qual pa bo sc [] [] fa fd) (h' : FunD K x qual pa bo sc [] [] fa fd') : fd = fd' := by
  obtain ⟨_, _, _, _, _, _, _, _, _, _, e1, l1, _⟩ := h.ex
  obtain ⟨_, _, _, _, _, _, _, _, _, _, e2, l2, _⟩ := h'.ex
  have e := l1.symm.trans l2
  injection e with e
  injection e with _ _ e _
  injection e
end
end Q

namespace Q
open PySem PySem.Spec PyProof.Rows L2
/-! ### enumerate of a tuple -/
section
variable {prog : Program} {w : World} {A : Around} {E : Value → Shared → Prop} {s : Shared}
end
/-- the tuple at a, each item in a new pair -/
def Iet (K : PySem.W.Frag) (a : Addr) : It :=
  ⟨fun i H => ∃ (xs : List V) (x : V), SqT K H a xs ∧ xs[i]? = some x, fun i H v H' => ∃ T x, v = .ref T ∧ H T = none ∧ H' = upd H T (.tup [.int (i : Nat), x]) ∧ ∀ xs, SqT K H a xs → xs[i]? = some x, fun i H => ∃ xs : List V, SqT K H a xs ∧ i = xs.length⟩
/-- a list or a tuple, numbered -/
def iEn (K : PySem.W.Frag) (tl : TA) : TI := fun σ H R => tl σ H fun vs H1 => ∃ a, vs = [.ref a] ∧ (((∃ xs, SqL K H1 a xs) ∧ R (Ite K a) H1) ∨ ((∃ xs, SqT K H1 a xs) ∧ R (Iet K a) H1))
section
variable {K : PySem.W.Frag} {H : Hp} {Ch Ex : Addr → Prop} {a : Addr} {vs : List V} {xs : List D}
end
section
variable {V0 : Ev} {W : WX} {X : Cx} {n : Nat} {a : Expr} {ia : IE} {p pos tpos : Pos} {elts : List Expr} {kk : Nat}
end
end Q

/-! Gd: a tuple backwards. -/
namespace Q
open PySem PySem.Spec PyProof.Rows L2 HT
section
variable {prog : Program} {w : World} {A : Around} {E : Value → Shared → Prop} {s : Shared}
end
def tRevA (K : PySem.W.Frag) (te : TE) : TE := fun σ H Q => te σ H fun x H1 => ∃ a xs, x = .ref a ∧ ((SqL K H1 a xs ∧ ∀ p, H1 p = none → Q (.ref p) (upd H1 p (.lst xs.reverse))) ∨ (SqT K H1 a xs ∧ ∀ p, H1 p = none → Q (.ref p) (upd H1 p (.tup xs.reverse))))
section
variable {X : Cx}
variable {V0 : Ev} {W : WX} {n : Nat} {a : Expr} {ia : IE}
end
end Q

namespace Q
open PySem PySem.Spec PyProof.Rows L2
/-! ### Ge: the module's constants -/
def vOf : Value → V
  | .none => .non
  | .bool b => .bl b
  | .int i _ => .int i
  | .str x _ => .str x
  | .ref a => .ref a
  | _ => .non
mutual
def isD (K : PySem.W.Frag) : D → Value → Bool
  | .none, .none => true
  | .bool b, .bool c => b == c
  | .int i, .int j _ => decide (i = j)
  | .str x, .str y _ => decide (x = y)
  | .tuple ds, .ref a => match K.lookup a with
    | some ⟨.type T, _, .seq its _, _⟩ => decide (T = "tuple") && decide (its.size ≤ sizeLine) && isDs K ds its.toList
    | _ => false
  | _, _ => false
def isDs (K : PySem.W.Frag) : List D → List Value → Bool
  | [], [] => true
  | d :: ds, v :: vs => isD K d v && isDs K ds vs
  | _, _ => false
end
mutual
theorem isD_ok {K : PySem.W.Frag} : ∀ (d : D) (v : Value), isD K d v = true → RelV (vOf v) v ∧ ∀ H Ex, Rp K H Ex (vOf v) d
  | .none, v, h => by
    cases v <;> simp [isD] at h
    exact ⟨rfl, fun _ _ => .non⟩
  | .bool b, v, h => by
    cases v <;> simp [isD] at h
    subst h
    exact ⟨rfl, fun _ _ => .bl _⟩
  | .int b, v, h => by
    cases v <;> simp [isD] at h
    subst h
    exact ⟨⟨_, rfl⟩, fun _ _ => .int _⟩
  | .str b, v, h => by
    cases v <;> simp [isD] at h
    subst h
    exact ⟨⟨_, rfl⟩, fun _ _ => .str _⟩
  | .list b, v, h => by
    cases v <;> simp [isD] at h
  | .dict b, v, h => by
    cases v <;> simp [isD] at h
  | .tuple ds, v, h => by
    cases v with
    | ref a =>
      unfold isD at h
      split at h
      · rename_i T dd its n sl e
        rw [Bool.and_eq_true, Bool.and_eq_true, decide_eq_true_iff, decide_eq_true_iff] at h
        obtain ⟨⟨rfl, h2⟩, h3⟩ := h
        obtain ⟨r1, r2⟩ := isDs_ok ds its.toList h3
        exact ⟨rfl, fun H Ex => .tup (.inr ⟨_, its, n, e, rfl, rfl, h2, r1⟩) (r2 H Ex)⟩
      · cases h
    | _ => simp [isD] at h
theorem isDs_ok {K : PySem.W.Frag} : ∀ (ds : List D) (vs : List Value), isDs K ds vs = true → Vals (vs.map vOf) vs ∧ ∀ H Ex, RpA K H Ex (vs.map vOf) ds
  | [], [], _ => ⟨.nil, fun _ _ => .nil⟩
  | [], _ :: _, h => by simp [isDs] at h
  | _ :: _, [], h => by simp [isDs] at h
  | d :: ds, v :: vs, h => by
    unfold isDs at h
    rw [Bool.and_eq_true] at h
    obtain ⟨a1, a2⟩ := isD_ok d v h.1
    obtain ⟨b1, b2⟩ := isDs_ok ds vs h.2
    exact ⟨.cons a1 b1, fun H Ex => .cons (a2 H Ex) (b2 H Ex)⟩
end
/-- a constant of the module -/
def Con (K : PySem.W.Frag) (mg : Str → Option Value) (gl : Str → Option D) (c : Str) : Prop := ∃ d v x, gl c = some d ∧ mg c = some v ∧ RelV x v ∧ ∀ H Ex, Rp K H Ex x d
def conB (K : PySem.W.Frag) (c : Str) (d : D) : Bool := match PySem.W.nsIn K mainGlobals c with
  | some (some v) => isD K d v
  | _ => false
section
variable {V0 : Ev} {W : WX} {X : Cx} {n : Nat} {pos : Pos}
end
end Q

namespace Q
open PySem PySem.Spec PyProof.Rows L2
/-! ### dicts with nested keys -/
section
variable {X : Cx} {pins : List (Addr × Obj)} {σ : L2.St} {H : Hp} {s : Shared} {Ex : Addr → Prop}
mutual
theorem rp_key (I : Inv X pins σ H s) : ∀ {d : D} {v : V} {u : Value} {q : NestedKey}, Rp X.K H Ex v d → RelV v u → keyD d = some q → NestedIs s.heap q u
  | .none, _, _, _, h, r, e => by
    cases h; cases r
    have e' : some NestedKey.none = some _ := e
    cases e'
    exact .none
  | .bool b, _, _, _, h, r, e => by
    have e' : (none : Option NestedKey) = some _ := e
    cases e'
  | .int i, _, _, _, h, r, e => by
    cases h
    obtain ⟨t, rfl⟩ := r
    have e' : some (NestedKey.num i) = some _ := e
    cases e'
    exact .int i t
  | .str x, _, _, _, h, r, e => by
    cases h
    obtain ⟨t, rfl⟩ := r
    have e' : some (NestedKey.text x) = some _ := e
    cases e'
    exact .text x t
  | .list ds, _, _, _, h, r, e => by
    have e' : (none : Option NestedKey) = some _ := e
    cases e'
  | .tuple ds, _, _, _, h, r, e => by
    cases h with
    | tup hn hr =>
      cases r
      obtain ⟨its, rv, ⟨o, ho, hc, n, hd⟩, _⟩ := I.tuple hn.sq
      have e' : (keyDs ds).map NestedKey.tup = some _ := e
      obtain ⟨qs, e1, rfl⟩ := map_some e'
      exact .tup ho hc hd (by simpa using rp_keys I hr rv e1)
  | .dict ds, _, _, _, h, r, e => by
    have e' : (none : Option NestedKey) = some _ := e
    cases e'
theorem rp_keys (I : Inv X pins σ H s) : ∀ {ds : List D} {vs : List V} {us : List Value} {qs : List NestedKey}, RpA X.K H Ex vs ds → Vals vs us → keyDs ds = some qs → NestedAll s.heap qs us
  | [], _, _, _, h, r, e => by
    cases h; cases r
    have e' : some ([] : List NestedKey) = some _ := e
    cases e'
    exact .nil
  | d :: ds, _, _, _, h, r, e => by
    cases h with
    | cons h1 h2 =>
      cases r with
      | cons r1 r2 =>
        have e' : (keyD d).bind (fun k => (keyDs ds).map (k :: ·)) = some _ := e
        obtain ⟨k, e1, e2⟩ := bind_some' e'
        obtain ⟨ks, e3, rfl⟩ := map_some e2
        exact .cons (rp_key I h1 r1 e1) (rp_keys I h2 r2 e3)
end
theorem KyD.is (I : Inv X pins σ H s) {a : Addr} {q : NestedKey} (h : KyD X.K H a q) : (nestedKind X.prog X.w).is s.heap q a := by
  obtain ⟨E, d, h1, h2, h3⟩ := h
  exact ⟨rp_key I h3 rfl h1, h2⟩
abbrev DnV := List (NestedKey × Addr × V)
abbrev DnP : DnV → List (NestedKey × Addr × Value) → Prop := Paired (fun x y => x.1 = y.1 ∧ x.2.1 = y.2.1 ∧ L2.RelV x.2.2 y.2.2)
theorem DnP.keys : ∀ {xs : DnV} {ys}, DnP xs ys → xs.map (·.1) = ys.map (·.1)
  | _, _, .nil => rfl
  | _, _, .cons h t => by simp only [List.map_cons, h.1, DnP.keys t]
theorem DnP.is (I : Inv X pins σ H s) : ∀ {xs : DnV} {ys}, DnP xs ys → (∀ x ∈ xs, KyD X.K H x.2.1 x.1) → ∀ y ∈ ys, (nestedKind X.prog X.w).is s.heap y.1 y.2.1
  | _, _, .nil, _ => fun _ h => by cases h
  | _, _, .cons (a := x) (b := y) h t, hk => fun z hz => by
    rcases List.mem_cons.mp hz with rfl | hz
    · rw [← h.1, ← h.2.1]
      exact (hk x List.mem_cons_self).is I
    · exact DnP.is I t (fun x hx => hk x (List.mem_cons_of_mem _ hx)) z hz
def lookN (q : NestedKey) : DnV → Option V
  | [] => none
  | x :: r => if x.1 = q then some x.2.2 else lookN q r
theorem DnP.look {q : NestedKey} : ∀ {xs : DnV} {ys}, DnP xs ys → RelO (lookN q xs) ((atKey ys q).map (·.2))
  | _, _, .nil => True.intro
  | _, _, .cons (a := x) (b := y) (l₁ := xs) (l₂ := ys) h t => by
    obtain ⟨h1, _, h2⟩ := h
    by_cases e : x.1 = q
    · have e' : y.1 = q := h1.symm.trans e
      have b : atKey (y :: ys) q = some y.2 := by simp [atKey, List.find?_cons, e']
      show RelO (if x.1 = q then some x.2.2 else _) _
      rw [if_pos e, b]; exact h2
    · have e' : ¬ y.1 = q := fun z => e (h1.trans z)
      have b : atKey (y :: ys) q = atKey ys q := by simp [atKey, List.find?_cons, e']
      show RelO (if x.1 = q then some x.2.2 else _) _
      rw [if_neg e, b]; exact DnP.look t
def IsDn (P : Program) (w : World) (H : Hp) (a : Addr) : Prop := ∃ xs, H a = some (dnO P w a xs)
/-- d.get(y, z) -/
def tDnGet (P : Program) (w : World) (K : PySem.W.Frag) (td ty tx : TE) : TE := fun σ H Q => td σ H fun x H1 => ∃ a, x = .ref a ∧ IsDn P w H1 a ∧ ty σ H1 fun y H2 => tx σ H2 fun z H3 => ∃ b q xs, y = .ref b ∧ H3 a = some (dnO P w a xs) ∧ (∀ x ∈ xs, KyD K H3 x.2.1 x.1) ∧ (a == sysModules) = false ∧ KyD K H3 b q ∧ Q ((lookN q xs).getD z) H3
/-! ### a display of such a dict -/
def tDispN (P : Program) (w : World) (K : PySem.W.Frag) (trs : List (TE × TE)) : TE := fun σ H Q => ∀ p, H p = none → (p == sysModules) = false → tPairs trs σ (upd H p (dnO P w p [])) fun ps H2 => H2 p = some (dnO P w p []) ∧
  ∃ xs : DnV, ps = xs.map (fun x => (V.ref x.2.1, x.2.2)) ∧ (xs.map (·.1)).Nodup ∧ (∀ x ∈ xs, KyD K H2 x.2.1 x.1) ∧ xs.length ≤ 15 ∧ Q (.ref p) (upd H2 p (dnO P w p xs))
/-! ### a store to it -/
def rDnSet (P : Program) (w : World) (K : PySem.W.Frag) : TSet := fun o i v H Q => ∃ a b q xs, o = .ref a ∧ i = .ref b ∧ H a = some (dnO P w a xs) ∧ (∀ x ∈ xs, KyD K H x.2.1 x.1) ∧ KyD K H b q ∧ q ∉ xs.map (·.1) ∧ xs.length ≤ 1000 ∧ Q (upd H a (dnO P w a (xs ++ [(q, b, v)])))
end
end Q

namespace Q
open PySem PySem.Spec PyProof.Rows L2
section
variable {K : PySem.W.Frag} {H : Hp} {Ex : Addr → Prop}
theorem DnR.keys : ∀ {xs : DnV} {ps : List (NestedKey × D)}, DnR K H Ex xs ps → ∀ x ∈ xs, KyD K H x.2.1 x.1
  | _, _, .nil => fun _ h => by cases h
  | _, _, .cons ⟨kd, h1, h2, h3⟩ r t => fun x hx => by
    rcases List.mem_cons.mp hx with rfl | hx
    · exact ⟨Ex, kd, h1, h2, h3⟩
    · exact t.keys x hx
theorem DnR.look (q : NestedKey) {z : V} {y : D} (rz : Rp K H Ex z y) : ∀ {xs : DnV} {ps : List (NestedKey × D)}, DnR K H Ex xs ps → Rp K H Ex ((lookN q xs).getD z) ((dicAt q ps).getD y)
  | _, _, .nil => rz
  | _, _, .cons (q := p) (v := v) (x := x) (xs := xs) (ps := ps) _ r t => by
    show Rp K H Ex ((if p = q then some v else lookN q xs).getD z) ((if p = q then some x else dicAt q ps).getD y)
    by_cases e : p = q
    · rw [if_pos e, if_pos e]; exact r
    · rw [if_neg e, if_neg e]; exact t.look q rz
end
section
variable {V0 : Ev} {W : WX} {X : Cx} {n : Nat} {a b e f : Expr} {es : List Expr} {ia ib ie iff : IE} {ies : List IE} {p p1 pos apos cpos : Pos} {x : Str} {i : Nat}
/-! ### list(range(..)), tuple(range(..)) -/
/-- the range within -/
def tRgE (V0 : Ev) (W : WX) (t : Bool) (ies : List IE) (F : Int → Int → L2.St → Hp → Gh → Tau → Ds → VK → Prop) : L2.St → Hp → (Int → Int → Hp → Prop) → Prop := fun _ _ _ => True
/-! ### methods of texts -/
end
end Q

namespace Q
open PySem PySem.Spec PyProof.Rows L2
section
variable {K : PySem.W.Frag} {cl : Cls} {g : Gh} {H H' : Hp} {σ : L2.St} {t : Tau} {k : Ds}
/-- what is kept out is rewritten -/
theorem Sim.reheld {p : Addr} {u : HO} (S : Sim K cl (g.hold p) H σ t k) (h0 : g.H0 p = none) (hl : ∀ xs, H p ≠ some (.lst xs)) (ht : LamX.Tabs cl.T (upd H p u)) : Sim K cl (g.hold p) (upd H p u) σ t k := by
  have nd : ¬ isDk g.dk p := S.exd p (.inr rfl)
  have ne : ∀ b, ¬ (g.hold p).Ex t b → b ≠ p := fun b n e => n (by rw [e]; exact (hold_ex g p p t).mpr (.inr rfl))
  have mv : Mv H (upd H p u) ((g.hold p).Ex t) ((g.hold p).Ex t) := ⟨fun b o h _ n => by rw [upd_ne (ne b n)]; exact h, fun b z => .inl z, fun b z => ne_upd z⟩
  refine ⟨fun b o h hn n => ?_, fun b z => ne_upd (S.kept b z), ht, S.was, ?_, fun b z => ?_, S.exd, S.len, fun i s h n => ?_, fun i xs h => ?_, S.inj⟩
  · rw [upd_ne (fun e => by rw [e] at h; have h : g.H0 p = some o := h; rw [h0] at h; cases h)]
    exact S.fr b o h hn n
  · have q := S.dkr
    revert q nd
    show ¬ isDk g.dk p → DkR H g.dk k → DkR (upd H p u) g.dk k
    generalize g.dk = d
    cases d with
    | none => intro _ q; cases k <;> exact q
    | some pr => cases k with
      | none => intro _ q; exact q
      | some dq =>
        intro nd ⟨q0, q1, q2, q3⟩
        exact ⟨q0, by rw [upd_ne (fun z => nd (.inl z.symm))]; exact q1, by rw [upd_ne (fun z => nd (.inr z.symm))]; exact q2, q3⟩
  · by_cases e : b = p
    · rw [e, upd_same]; exact fun q => by cases q
    · rw [upd_ne e]; exact S.ex b z
  · obtain ⟨v, h1, h2⟩ := S.sl i s h n
    exact ⟨v, h1, h2.mv mv fun _ q => q⟩
  · obtain ⟨h1, h2, h3, vs, h4, h5⟩ := S.own i xs h
    refine ⟨h1, h2, h3, vs, ?_, h5.mv mv⟩
    rw [upd_ne]
    · exact h4
    · intro e; rw [e] at h4; exact hl vs h4
end
/-! ### a dict that is made, name by name -/
/-- at p a dict is being made: it is kept out -/
structure DnS (V0 : Ev) (g0 : Gh) (H0 : Hp) (g : Gh) (t : Tau) (H : Hp) (σ : L2.St) (k : Ds) (p : Addr) (xs : DnV) (ps : List (NestedKey × D)) : Prop where
  S : Sim V0.K V0.cl (g.hold p) H σ t k
  hp : H p = some (dnO V0.cl.P V0.cl.w p xs)
  sm : (p == sysModules) = false
  r : DnR V0.K H ((g.hold p).Ex t) xs ps
  h0 : g.H0 p = none
  e : Ext g0.dk g.dk H0 H
  n0 : H0 p = none
  gh : g.H0 = g0.H0
  ge : g.Ex0 = g0.Ex0
  ad : g.ad = g0.ad
section
variable {V0 : Ev} {W : WX} {X : Cx} {n : Nat} {g0 g : Gh} {t : Tau} {H0 H : Hp} {σ : L2.St} {k k1 : Ds} {p : Addr} {xs : DnV} {ps : List (NestedKey × D)}
theorem dnO_lst {P : Program} {w : World} {a : Addr} {xs : DnV} {ys : List V} : dnO P w a xs ≠ .lst ys := fun z => by
  unfold dnO at z
  cases z
/-- such a dict is no code object -/
theorem dn_code {P : Program} {w : World} {p : Addr} {xs : DnV} {q : Str} : dnO P w p xs ≠ LamX.CodeO p q := fun z => by
  unfold dnO LamX.CodeO at z
  have e := HO.ext.inj z
  have g : (⟨Array.replicate (p + 1) { cls := .none, data := .fields #[.none, .str q 0] }, {}⟩ : Heap).get? p = some { cls := .none, data := .fields #[.none, .str q 0] } := by
    unfold Heap.get?
    rw [show (Array.replicate (p + 1) ({ cls := .none, data := .fields #[.none, .str q 0] } : Obj))[p]? = some { cls := .none, data := .fields #[.none, .str q 0] } by simp]
  have y := (congrFun e ⟨Array.replicate (p + 1) { cls := .none, data := .fields #[.none, .str q 0] }, {}⟩).symm.mp ⟨_, #[.none, .str q 0], 0, g, rfl, rfl⟩
  obtain ⟨ys, _, o, es, ep, h1, _, h2, _⟩ := y
  rw [g] at h1
  cases h1
  cases h2
theorem dn_tabs {P : Program} {w : World} {T : List (Addr × Str)} {H : Hp} {p : Addr} {xs : DnV} {v : HO} (t : LamX.Tabs T H) (h : H p = some (dnO P w p xs)) : LamX.Tabs T (upd H p v) := fun q hq => by
  obtain ⟨ps, h1, h2, h3⟩ := t q hq
  have n : ∀ {b : Addr} {o : HO}, H b = some o → o ≠ dnO P w p xs → upd H p v b = some o := fun {b o} e ne => by
    have nb : b ≠ p := fun z => ne (by rw [z, h] at e; exact (Option.some.inj e).symm)
    rw [upd_ne nb]; exact e
  refine ⟨ps, n h1 (fun z => by unfold dnO at z; cases z), h2, fun pos cv hc => ?_⟩
  obtain ⟨c, e1, e2⟩ := h3 pos cv hc
  refine ⟨c, e1, ?_⟩
  by_cases hcp : c = p
  · subst hcp
    rw [h] at e2
    exact absurd (Option.some.inj e2) dn_code
  · rw [upd_ne hcp]; exact e2
theorem DnS.nd (s : DnS V0 g0 H0 g t H σ k p xs ps) : ¬ isDk g.dk p := s.S.exd p (.inr rfl)
theorem DnS.step {H1 : Hp} {d1 : Da} (s : DnS V0 g0 H0 g t H σ k p xs ps) (e : Ext g.dk d1 H H1) (S1 : Sim V0.K V0.cl ((g.at d1).hold p) H1 σ t k1) : DnS V0 g0 H0 (g.at d1) t H1 σ k1 p xs ps :=
  ⟨S1, e.keep p _ s.hp rfl s.nd, s.sm, s.r.mv (s.S.mv (d' := d1) e), s.h0, s.e.trans e, s.n0, s.gh, s.ge, s.ad⟩
theorem DnR.snoc {K : PySem.W.Frag} {H : Hp} {Ex : Addr → Prop} {q : NestedKey} {a : Addr} {v : V} {x : D} (hk : ∃ kd, keyD kd = some q ∧ q.depth ≤ 8 ∧ Rp K H Ex (.ref a) kd) (hv : Rp K H Ex v x) : ∀ {xs : DnV} {ps : List (NestedKey × D)}, DnR K H Ex xs ps → DnR K H Ex (xs ++ [(q, a, v)]) (ps ++ [(q, x)])
  | _, _, .nil => .cons hk hv .nil
  | _, _, .cons h1 h2 h3 => .cons h1 h2 (h3.snoc hk hv)
theorem DnS.put {ys : DnV} {qs : List (NestedKey × D)} (s : DnS V0 g0 H0 g t H σ k p xs ps) (r : DnR V0.K H ((g.hold p).Ex t) ys qs) : DnS V0 g0 H0 g t (upd H p (dnO V0.cl.P V0.cl.w p ys)) σ k p ys qs ∧ Mv H (upd H p (dnO V0.cl.P V0.cl.w p ys)) ((g.hold p).Ex t) ((g.hold p).Ex t) := by
  have ne : ∀ b, ¬ (g.hold p).Ex t b → b ≠ p := fun b n e => n (by rw [e]; exact (hold_ex g p p t).mpr (.inr rfl))
  have mv : Mv H (upd H p (dnO V0.cl.P V0.cl.w p ys)) ((g.hold p).Ex t) ((g.hold p).Ex t) := ⟨fun b o h _ n => by rw [upd_ne (ne b n)]; exact h, fun b z => .inl z, fun b z => ne_upd z⟩
  refine ⟨⟨s.S.reheld s.h0 (fun zs z => by rw [s.hp] at z; exact dnO_lst (Option.some.inj z)) (dn_tabs s.S.tab s.hp), upd_same, s.sm, r.mv mv, s.h0, ⟨fun b o h hn n => ?_, s.e.dk, fun b z => ne_upd (s.e.ne b z)⟩, s.n0, s.gh, s.ge, s.ad⟩, mv⟩
  rw [upd_ne (fun e => by rw [e, s.n0] at h; cases h)]
  exact s.e.keep b o h hn n
/-- a constant -/
theorem DnS.con {ie : IE} {d : D} {Q : VK} (s : DnS V0 g0 H0 g t H σ k p xs ps) (hc : ∀ G t k, data (ev G t ie k) = .ok d k) (h : ∀ v H1 d1, DnS V0 g0 H0 (g.at d1) t H1 σ k p xs ps → Ext g.dk d1 H H1 → Rp V0.K H1 (((g.at d1).hold p).Ex t) v d → Q v H1) : tEr V0 W ie σ H Q := by
  refine ⟨g.hold p, t, k, s.S, ?_⟩
  show PostR V0 W (g.hold p) σ t H (data (ev V0.G t ie k)) (relR V0 t) Q
  rw [hc]
  exact fun v H1 d1 e S1 r => h v H1 d1 (s.step e S1) e r
theorem DnS.done {g1 : Gh} {H1 : Hp} {σ0 : L2.St} {k0 : Ds} {i : Nat} (S : Sim V0.K V0.cl g H σ0 t k0) (hg : Gok g) (s : DnS V0 g H g1 (t.set i none) H1 σ k p xs ps) (hsl : σ[i]? = some (some (.ref p))) (hl : xs.length ≤ 1000) :
    Sim V0.K V0.cl g1 H1 σ (t.set i (some (.dic ps))) k ∧ Stp g t H g1 (t.set i (some (.dic ps))) H1 ∧ Gok g1 := by
  have S1 := s.S.freed
  have hx : ¬ g1.Ex (t.set i none) p := fun z => by
    rcases z with z | z | ⟨j, ys, z1, z2⟩
    · rw [s.ge] at z
      exact hg p z (by rw [← s.gh]; exact s.h0)
    · exact s.nd z
    · obtain ⟨_, _, _, vs, h4, _⟩ := S1.own j ys z1
      rw [z2, s.hp] at h4
      exact dnO_lst (Option.some.inj h4)
  have S2 := S1.put (i := i) (s := .dic ps) (v := .ref p) (fun xs z => by cases z) ⟨p, xs, rfl, s.hp, hx, s.sm, hl, s.r.mv (Mv.less fun b z => (hold_ex g1 p b _).mpr (.inl z))⟩
  rw [List.set_set] at S2
  have eσ : σ.set i (some (.ref p)) = σ := by
    apply List.ext_getElem?
    intro j
    by_cases e : i = j
    · subst e
      have hi : i < σ.length := by
        by_cases hi : i < σ.length
        · exact hi
        · rw [List.getElem?_eq_none (Nat.le_of_not_lt hi)] at hsl; cases hsl
      rw [List.getElem?_set_self hi, hsl]
    · rw [List.getElem?_set_ne e]
  rw [eσ] at S2
  refine ⟨S2, ?_, fun b z => ?_⟩
  · have e1 : g1 = g.at g1.dk := by
      obtain ⟨h0, e0, ad, dk⟩ := g1
      have a1 := s.gh; have a2 := s.ge; have a3 := s.ad
      dsimp only at a1 a2 a3
      subst a1 a2 a3
      rfl
    have st := stp_of S s.e
    rw [← e1] at st
    refine st.trans ⟨rfl, rfl, .inl rfl, (Mv.less fun b z => own_less (fun j ys h => ?_) b z)⟩
    rcases set_get h with ⟨_, e, _⟩ | ⟨_, h⟩
    · cases e
    · exact h
  · rw [s.ge] at z
    rw [s.gh]; exact hg b z
theorem rp_ref {K : PySem.W.Frag} {H : Hp} {Ex : Addr → Prop} {v : V} {d : D} {qs : List NestedKey} (r : Rp K H Ex v d) (h : keyD d = some (.tup qs)) : ∃ a, v = .ref a := by
  cases r with
  | tup _ _ => exact ⟨_, rfl⟩
  | lst _ _ => have h' : (none : Option NestedKey) = some _ := h; cases h'
  | dct _ _ _ => have h' : (none : Option NestedKey) = some _ := h; cases h'
  | non => have h' : some NestedKey.none = some _ := h; cases h'
  | bl b => have h' : (none : Option NestedKey) = some _ := h; cases h'
  | int i => have h' : some (NestedKey.num i) = some _ := h; cases h'
  | str i => have h' : some (NestedKey.text i) = some _ := h; cases h'
end
/-- a key that is written, a value that is written -/
structure DnC (V0 : Ev) (W : WX) (X : Cx) (e : Expr) (d : D) where
  ie : IE
  se : SE V0 W X e ie
  hc : ∀ G t k, data (ev G t ie k) = .ok d k
section
variable {V0 : Ev} {W : WX} {X : Cx} {n : Nat} {k1 k2 k3 k4 k5 v1 v2 v3 v4 v5 : Expr} {i : Nat} {x : Str} {kd1 kd2 kd3 kd4 kd5 d1 d2 d3 d4 d5 : D} {a1 a2 a3 a4 a5 : List NestedKey} {rest : List Stmt} {iss : List IS}
  {pa pb pc pd pe pf pg ph pi pj pk pl pm po : Pos} {kk kk2 : Nat}
end
end Q

namespace Q
open PySem PySem.Spec PyProof.Rows L2
section
variable {V0 : Ev} {W : WX} {X : Cx} {n : Nat} {g : Gh} {t : Tau} {H : Hp} {σ : L2.St} {k : Ds}
/-! ### displays of data -/
inductive DKs (X : Cx) : List (Option Expr) → List Key → Prop
  | nil : DKs X [] []
  | cons {e : Expr} {q : Key} {es : List (Option Expr)} {qs : List Key} : PE X e (tC (kV q)) → DKs X es qs → DKs X (some e :: es) (q :: qs)
theorem DKs.all {es : List (Option Expr)} {qs : List Key} (h : DKs X es qs) : es.all (·.isSome) = true ∧ es.length = qs.length := by
  induction h with
  | nil => exact ⟨rfl, rfl⟩
  | cons _ _ ih => exact ⟨by simp [ih.1], by simp [ih.2]⟩
inductive DVs (V0 : Ev) (W : WX) (X : Cx) : List Expr → List IE → Prop
  | nil : DVs V0 W X [] []
  | cons {e : Expr} {ie : IE} {es : List Expr} {ies : List IE} : SE V0 W X e ie → DVs V0 W X es ies → DVs V0 W X (e :: es) (ie :: ies)
def dtrs (V0 : Ev) (W : WX) : List Key → List IE → List (TE × TE)
  | q :: qs, ie :: ies => (tC (kV q), tEr V0 W ie) :: dtrs V0 W qs ies
  | _, _ => []
theorem dct_pps {pos : Pos} : ∀ {keys : List (Option Expr)} {values : List Expr} {qs : List Key} {ies : List IE}, DKs X keys qs → DVs V0 W X values ies → qs.length = ies.length → PPs X pos keys values (dtrs V0 W qs ies)
  | _, _, _, _, .nil, .nil, _ => pps_nil
  | _, _, _, _, .cons h1 h2, .cons v1 v2, e => pps_cons h1 v1.pr (dct_pps h2 v2 (by simpa using e))
  | _, _, _, _, .nil, .cons _ _, e => by simp at e
  | _, _, _, _, .cons _ _, .nil, e => by simp at e
theorem dct_run : ∀ (qs : List Key) (ies : List IE) {g : Gh} {H : Hp} {k : Ds} {Q : List (V × V) → Hp → Prop}, qs.length = ies.length → Sim V0.K V0.cl g H σ t k → PostR V0 W g σ t H (evx V0.G t ies k) (relRD V0 t) (fun vs H' => Q ((qs.map kV).zip vs) H') → tPairs (dtrs V0 W qs ies) σ H Q
  | [], [], g, H, k, Q, _, S, p => by
    have p' : PostR V0 W g σ t H (.ok [] k) (relRD V0 t) (fun vs H' => Q ((([] : List Key).map kV).zip vs) H') := p
    exact p' [] H g.dk (ext0 _ _) S .nil
  | q :: qs, ie :: ies, g, H, k, Q, e, S, p => by
    have p' : PostR V0 W g σ t H ((data (ev V0.G t ie k)).bind fun s k => (evx V0.G t ies k).bind fun r k => .ok (s :: r) k) (relRD V0 t) (fun vs H' => Q (((q :: qs).map kV).zip vs) H') := p
    refine ⟨g, t, k, S, PostR.bind p' fun s k1 v H1 d1 e1 S1 r1 p1 => ?_⟩
    refine dct_run qs ies (by simpa using e) S1 (PostR.bind p1 fun r k2 vs H2 d2 e2 S2 r2 p2 => ?_)
    exact p2 (v :: vs) H2 d2 (ext0 _ _) S2 (.cons (r1.mv (S1.mv e2)) r2)
  | [], _ :: _, _, _, _, _, e, _, _ => by simp at e
  | _ :: _, [], _, _, _, _, e, _, _ => by simp at e
theorem keyLits_kD : ∀ {ks : List D} {qs : List Key}, keyLits ks = some qs → ks = qs.map kD
  | [], _, e => by have e' : some ([] : List Key) = some _ := e; cases e'; rfl
  | d :: ds, _, e => by
    obtain ⟨q, e1, e2⟩ := bind_some' (show (keyLit d).bind (fun k => (keyLits ds).map (k :: ·)) = some _ from e)
    obtain ⟨qs, e3, rfl⟩ := map_some e2
    rw [keyLits_kD e3, List.map_cons]
    congr 1
    cases d with
    | int i => have e' : some (Sum.inl i : Key) = some _ := e1; cases e'; rfl
    | str i => have e' : some (Sum.inr i : Key) = some _ := e1; cases e'; rfl
    | _ => cases e1
theorem putK_at {kvs : List (Key × V)} {q : Key} {v : V} (h : q ∉ kvs.map (·.1)) : putK kvs q v = kvs ++ [(q, v)] := putK_new v (by
  have a := valV_any q kvs
  cases z : valV kvs q with
  | none => rfl
  | some x =>
    rw [z] at a
    obtain ⟨y, hy, e⟩ := List.any_eq_true.mp a
    exact absurd (by rw [← of_decide_eq_true e]; exact List.mem_map_of_mem hy) h)
theorem merge_new : ∀ (ms acc : List (Key × V)), ((acc ++ ms).map (·.1)).Nodup → mergeK acc ms = acc ++ ms
  | [], acc, _ => by simp [mergeK]
  | m :: ms, acc, h => by
    have hn : m.1 ∉ acc.map (·.1) := fun z => by
      rw [List.map_append, List.nodup_append] at h
      exact h.2.2 _ z m.1 (by simp) rfl
    show mergeK (putK acc m.1 m.2) ms = _
    rw [putK_at hn, merge_new ms (acc ++ [(m.1, m.2)]) (by simpa using h)]
    simp
theorem rpK_zip {K : PySem.W.Frag} {H : Hp} {Ex : Addr → Prop} : ∀ {qs : List Key} {vs : List V} {xs : List D}, RpA K H Ex vs xs → RpK K H Ex (qs.zip vs) ((qs.map kD).zip xs)
  | [], _, _, _ => .nil
  | _ :: _, _, _, .nil => .nil
  | q :: qs, _, _, .cons h t => .cons h (rpK_zip t)
theorem zip_keys : ∀ {qs : List Key} {vs : List V}, qs.length = vs.length → (qs.zip vs).map (·.1) = qs
  | [], [], _ => rfl
  | q :: qs, v :: vs, e => by simp [zip_keys (qs := qs) (vs := vs) (by simpa using e)]
  | [], _ :: _, e => by simp at e
  | _ :: _, [], e => by simp at e
theorem zip_kV : ∀ {qs : List Key} {vs : List V}, (qs.map kV).zip vs = (qs.zip vs).map (fun kv => (kV kv.1, kv.2))
  | [], _ => rfl
  | _ :: _, [] => rfl
  | q :: qs, v :: vs => by simp [zip_kV (qs := qs) (vs := vs)]
theorem se_dct {pos : Pos} {keys : List (Option Expr)} {values : List Expr} {ks : List D} {qs : List Key} {ies : List IE} (hk : DKs X keys qs) (hv : DVs V0 W X values ies) (hks : keyLits ks = some qs) (hl : qs.length = ies.length) (hlv : keys.length = values.length) (h0 : keys ≠ []) (h15 : keys.length ≤ 15)
    (he : ∀ whole, isTrue (.Dict keys values pos) X.env whole = (do let v ← whole; standAt (Expr.Dict keys values pos).pos; holding [v] (truthy v)) := by intro _; rfl) : SE V0 W X (.Dict keys values pos) (.dct ks ies) := by
  refine SE.mk' (peImp (pe_disp (dct_pps hk hv hl) hk.all.1 hlv h0 h15) fun σ H Q => ?_) (fun i q => by cases q) he
  rintro ⟨g, t, k, S, pp⟩
  intro p hp
  have p0 : PostR V0 W g σ t H ((evx V0.G t ies k).bind fun xs k => opt ((dctD ks xs).map Sl.d) k) (relS' V0 t) Q := pp
  have SH := S.held (u := .dK []) hp
  have e0 : Ext g.dk g.dk H (upd H p (.dK [])) := (Ext.all (upd_keep hp))
  have hp0 : g.H0 p = none := by
    cases z : g.H0 p with
    | none => rfl
    | some o => exact absurd hp (S.kept p (some_ne z))
  refine dct_run qs ies hl SH ?_
  revert p0
  cases hx : evx V0.G t ies k with
  | no => exact fun p0 => p0.elim
  | ex c x kx => exact fun p0 d H1 d1 v e1 S1 r hx => p0 d H1 d1 v (e0.trans e1) S1.freed (r.same fun b z => (hold_ex _ p b t).mpr (.inl z)) (hx.same fun b z => (hold_ex _ p b t).mpr (.inl z))
  | ok xs kx =>
    intro p0 vs H2 d2 e2 S2 r2
    have p1 : PostR V0 W g σ t H (opt ((dctD ks xs).map Sl.d) kx) (relS' V0 t) Q := p0
    obtain ⟨s, e3, p3⟩ := p1.opt
    obtain ⟨z, e4, rfl⟩ := map_some e3
    obtain ⟨qs', e5, e6⟩ := bind_some' (show (keyLits ks).bind (fun qs => if decide (qs.Nodup) && decide (qs.length = xs.length) && decide (qs.length ≤ 15) then some (PyData.dict (ks.zip xs)) else none) = some z from e4)
    rw [hks] at e5
    cases e5
    obtain ⟨e7, rfl⟩ := if_some e6
    rw [Bool.and_eq_true, Bool.and_eq_true] at e7
    have nd := of_decide_eq_true e7.1.1
    have lx := of_decide_eq_true e7.1.2
    have l15 := of_decide_eq_true e7.2
    have lv : qs.length = vs.length := by rw [lx]; exact (RpA.len r2).symm
    have hpA : H2 p = some (.dK []) := e2.keep p _ upd_same rfl (SH.exd p (.inr rfl))
    refine ⟨hpA, qs.zip vs, zip_kV, by rw [List.length_zip]; omega, ?_⟩
    have em : mergeK [] (qs.zip vs) = qs.zip vs := by
      rw [merge_new _ _ (by rw [List.nil_append, zip_keys lv]; exact nd), List.nil_append]
    rw [em]
    have S2' : Sim V0.K V0.cl ((g.at d2).hold p) H2 σ t kx := S2
    have S3 := S2'.reheld (u := .dK (qs.zip vs)) hp0 (fun ys z => by rw [hpA] at z; cases z) (tabs_upd S2'.tab fun u hu => by rw [hpA] at hu; cases hu; rfl)
    have ndp : ¬ isDk d2 p := S2'.exd p (.inr rfl)
    have nx : ¬ (g.at d2).Ex t p := fun z => by
      rcases z with z | z | ⟨j, ys, z1, z2⟩
      · exact S.ex p z hp
      · exact ndp z
      · obtain ⟨_, _, _, ws, h4, _⟩ := S.own j ys z1
        have z2' : g.ad j = p := z2
        rw [z2', hp] at h4
        cases h4
    have ex : Ext g.dk d2 H (upd H2 p (.dK (qs.zip vs))) := by
      have e' := e0.trans e2
      refine ⟨fun b o h hn n => ?_, e'.dk, fun b z => ne_upd (e'.ne b z)⟩
      rw [upd_ne (fun e => by rw [e, hp] at h; cases h)]
      exact e'.keep b o h hn n
    refine p3 (.ref p) _ d2 ex S3.freed ?_
    rw [keyLits_kD hks]
    refine .dct upd_same nx (rpK_zip (r2.mv ⟨fun b o h _ n => ?_, fun b z => .inl ((hold_ex (g.at d2) p b t).mpr (.inl z)), fun b z => ne_upd z⟩))
    rw [upd_ne (fun e => n (by rw [e]; exact (hold_ex (g.at d2) p p t).mpr (.inr rfl)))]
    exact h
theorem se_dct0 {pos : Pos} : SE V0 W X (.Dict [] [] pos) (.dct [] []) := by
  refine SE.mk' (peImp pe_dnewK fun σ H Q => ?_) (fun i q => by cases q)
  rintro ⟨g, t, k, S, pp⟩
  intro p hp
  have p0 : PostR V0 W g σ t H (.ok (.d (.dict [])) k) (relS' V0 t) Q := pp
  have nx : ¬ g.Ex t p := fun z => S.exs z hp
  exact p0 (.ref p) _ g.dk (Ext.all (upd_keep hp)) (S.grow (upd_keep hp)) (.dct upd_same nx .nil)
theorem dk_i {e : Expr} {x : Int} (h : PE X e (tC (.int x))) : PE X e (tC (kV (Sum.inl x))) := h
end
/-! ### a dict that is asked as it is made -/
section
variable {V0 : Ev} {W : WX} {X : Cx} {n : Nat} {g : Gh} {t : Tau} {H : Hp} {σ : L2.St} {k : Ds}
/-- written pairs -/
inductive DnL (V0 : Ev) (W : WX) (X : Cx) : List (Option Expr) → List Expr → List (NestedKey × D) → List (TE × TE) → Prop
  | nil : DnL V0 W X [] [] [] []
  | cons {ke ve : Expr} {kd d : D} {qs : List NestedKey} {kes : List (Option Expr)} {ves : List Expr} {ps : List (NestedKey × D)} {trs : List (TE × TE)} (c : DnC V0 W X ke kd) (w : DnC V0 W X ve d) : keyD kd = some (.tup qs) → (NestedKey.tup qs).depth ≤ 8 → DnL V0 W X kes ves ps trs →
      DnL V0 W X (some ke :: kes) (ve :: ves) ((.tup qs, d) :: ps) ((tEr V0 W c.ie, tEr V0 W w.ie) :: trs)
theorem DnL.len {kes ves ps trs} (h : DnL V0 W X kes ves ps trs) : kes.all (·.isSome) = true ∧ kes.length = ves.length ∧ kes.length = ps.length := by
  induction h with
  | nil => exact ⟨rfl, rfl, rfl⟩
  | cons _ _ _ _ _ ih => exact ⟨by simp [ih.1], by simp [ih.2.1], by simp [ih.2.2]⟩
theorem DnL.run {g0 : Gh} {H0 : Hp} {p : Addr} {ys : DnV} {qs0 : List (NestedKey × D)} {kes ves ps trs} (h : DnL V0 W X kes ves ps trs) : ∀ {g : Gh} {H : Hp} {Q : List (V × V) → Hp → Prop} (xs0 : DnV) (ps0 : List (NestedKey × D)), DnS V0 g0 H0 g t H σ k p ys qs0 → DnR V0.K H ((g.hold p).Ex t) xs0 ps0 →
    (∀ g1 H1 (xs : DnV), DnS V0 g0 H0 g1 t H1 σ k p ys qs0 → DnR V0.K H1 ((g1.hold p).Ex t) (xs0 ++ xs) (ps0 ++ ps) → Q (xs.map (fun x => (V.ref x.2.1, x.2.2))) H1) → tPairs trs σ H Q := by
  induction h with
  | nil => exact fun {g H Q} xs0 ps0 s r f => f _ _ [] s (by simpa using r)
  | @cons ke ve kd d qs kes ves ps trs c w e1 e2 _ ih =>
    intro g H Q xs0 ps0 s r f
    refine s.con c.hc fun b H1 d1 s1 x1 r1 => ?_
    refine s1.con w.hc fun u H2 d2 s2 x2 r2 => ?_
    obtain ⟨b, rfl⟩ := rp_ref r1 e1
    have r0 : DnR V0.K H2 ((((g.at d1).at d2).hold p).Ex t) (xs0 ++ [(.tup qs, b, u)]) (ps0 ++ [(.tup qs, d)]) := ((r.mv (s.S.mv x1)).mv (s1.S.mv x2)).snoc ⟨kd, e1, e2, r1.mv (s1.S.mv x2)⟩ r2
    refine ih (xs0 ++ [(.tup qs, b, u)]) (ps0 ++ [(.tup qs, d)]) s2 r0 fun g3 H3 xs s3 r3 => ?_
    exact f g3 H3 ((.tup qs, b, u) :: xs) s3 (by simpa using r3)
variable {e f : Expr} {ie iff : IE} {apos cpos : Pos}
end
end Q

namespace Q
open PySem PySem.Spec PyProof.Rows L2
/-! ### Gj: targets of any form, the last one a new list -/
section
variable {V0 : Ev} {W : WX} {X : Cx} {n : Nat} {a e : Expr} {es : List Expr} {ia ie : IE} {ies : List IE} {pos : Pos} {i : Nat} {g : Tg} {gs : List Tg}
/-- the targets gs, behind them the new list's name -/
def tGo (V0 : Ev) (i : Nat) (gs : List Tg) : TGs := fun vs σ H Q => ∃ (gh : Gh) (t : Tau) (k : Ds) (ss : List Sl) (L : List Addr) (t' : Tau), Sim V0.K V0.cl (gh.holds L) H σ t k ∧ (∀ p ∈ L, gh.H0 p = none) ∧ (∀ p ∈ L, ∀ j ys, t[j]? = some (some (.own ys)) → gh.ad j ≠ p) ∧
  ItR V0 H ((gh.holds L).Ex t) gh.dk vs ss L ∧ bindSs i gs ss t = some t' ∧ ∀ (σ' : L2.St) (g' : Gh), g'.H0 = gh.H0 → g'.Ex0 = gh.Ex0 → g'.dk = gh.dk → (∀ b, g'.Ex t' b → (gh.holds L).Ex t b) → Sim V0.K V0.cl g' H σ' t' k → Q σ' H
end
end Q

namespace Q
open PySem
/-! ### the evaluator, construct by construct -/
/-! ### operators, as rules that are no definitional ones (the kernel does not unfold them) -/
theorem noRfl {α : Sort _} {a b : α} (h : b = a) : a = b := h.symm
theorem yU {a b : Int} : bopD .Add (.int a) (.int b) = some (.int (a + b)) := noRfl rfl
theorem yV {a b : Int} : bopD .Sub (.int a) (.int b) = some (.int (a - b)) := noRfl rfl
theorem yX {a b : Int} (h : mulOk a b = true) : bopD .Mult (.int a) (.int b) = some (.int (a * b)) := by
  show (if mulOk a b then some (PyData.int (a * b)) else none) = _
  rw [if_pos h]
theorem yY {a b : Int} (h : divOk b = true) : bopD .FloorDiv (.int a) (.int b) = some (.int (a / b)) := by
  show (if divOk b then some (PyData.int (a / b)) else none) = _
  rw [if_pos h]
theorem yZ {a b : Int} : bopD .Mod (.int a) (.int b) = if 0 < b then some (.int (a % b)) else none := noRfl rfl
theorem ya {a b : Int} (h : powOk a b = true) : bopD .Pow (.int a) (.int b) = some (.int (a ^ b.toNat)) := by
  show (if powOk a b then some (PyData.int (a ^ b.toNat)) else none) = _
  rw [if_pos h]
theorem yc {a b : Int} (h : powOk a b = true) : bopD .LShift (.int a) (.int b) = some (.int (a * 2 ^ b.toNat)) := by
  show (if powOk a b then some (PyData.int (a * 2 ^ b.toNat)) else none) = _
  rw [if_pos h]
theorem yd {a b : Int} : bopD .RShift (.int a) (.int b) = if 0 ≤ b then some (.int (a / 2 ^ b.toNat)) else none := noRfl rfl
theorem ye {a b : Int} : bopD .BitAnd (.int a) (.int b) = some (.int (Builtin.bitAnd a b)) := noRfl rfl
theorem yf {a b : Int} : bopD .BitOr (.int a) (.int b) = some (.int (Builtin.bitOr a b)) := noRfl rfl
theorem yg {a b : Int} : bopD .BitXor (.int a) (.int b) = some (.int (Builtin.bitXor a b)) := noRfl rfl
theorem yh {a b : Str} : bopD .Add (.str a) (.str b) = if lenOk (a.length + b.length) then some (.str (a ++ b)) else none := noRfl rfl
theorem yi {a b : List D} : bopD .Add (.tuple a) (.tuple b) = if lenOk (a.length + b.length) then some (.tuple (a ++ b)) else none := noRfl rfl
theorem yj {a b : List D} : bopD .Add (.list a) (.list b) = if lenOk (a.length + b.length) then some (.list (a ++ b)) else none := noRfl rfl
theorem yk {a : List D} {n : Int} : bopD .Mult (.tuple a) (.int n) = if lenOk (a.length * n.toNat) && decide (n < 1000000) && decide (-1000000 < n) then some (.tuple (rep a n.toNat)) else none := noRfl rfl
theorem yl {a : List D} {n : Int} : bopD .Mult (.list a) (.int n) = if lenOk (a.length * n.toNat) && decide (n < 1000000) && decide (-1000000 < n) then some (.list (rep a n.toNat)) else none := noRfl rfl
theorem ym {a b : Int} : cmpD .Eq (.int a) (.int b) = some (decide (a = b)) := noRfl rfl
theorem yn {a b : Int} : cmpD .NotEq (.int a) (.int b) = some (!decide (a = b)) := noRfl rfl
theorem yo {a b : Int} : cmpD .Lt (.int a) (.int b) = some (decide (a < b)) := noRfl rfl
theorem yp {a b : Int} : cmpD .LtE (.int a) (.int b) = some (decide (a ≤ b)) := noRfl rfl
theorem yq {a b : Int} : cmpD .Gt (.int a) (.int b) = some (decide (b < a)) := noRfl rfl
theorem yr {a b : Int} : cmpD .GtE (.int a) (.int b) = some (decide (b ≤ a)) := noRfl rfl
theorem yt {a b : Str} : cmpD .Eq (.str a) (.str b) = some (decide (a = b)) := noRfl rfl
theorem yu {a b : Str} : cmpD .NotEq (.str a) (.str b) = some (!decide (a = b)) := noRfl rfl
theorem yw {a b : Str} : cmpD .In (.str a) (.str b) = some (!(Builtin.Str.occurrences b a 0 b.length 1).isEmpty) := noRfl rfl
theorem yx {a b : Str} : cmpD .NotIn (.str a) (.str b) = some (!(!(Builtin.Str.occurrences b a 0 b.length 1).isEmpty)) := noRfl rfl
theorem yy {a b : Bool} : cmpD .Is (.bool a) (.bool b) = some (decide (a = b)) := noRfl rfl
theorem yz {a b : Bool} : cmpD .IsNot (.bool a) (.bool b) = some (!decide (a = b)) := noRfl rfl
theorem qA {a : D} : cmpD .Is a .none = some (isNoneD a) := by cases a <;> rfl
theorem qB {a : D} : cmpD .IsNot a .none = some (!isNoneD a) := by cases a <;> rfl
theorem qC {a : D} {xs : List D} : cmpD .In a (.tuple xs) = if shp a && shp (.tuple xs) then some (xs.any fun z => PyData.eqv z a) else none := by cases a <;> rfl
theorem qD {a : D} {xs : List D} : cmpD .In a (.list xs) = if shp a && shp (.list xs) then some (xs.any fun z => PyData.eqv z a) else none := by cases a <;> rfl
theorem qE {a : D} {xs : List D} : cmpD .NotIn a (.tuple xs) = if shp a && shp (.tuple xs) then some (!xs.any fun z => PyData.eqv z a) else none := by cases a <;> rfl
theorem qF {a : D} {xs : List D} : cmpD .NotIn a (.list xs) = if shp a && shp (.list xs) then some (!xs.any fun z => PyData.eqv z a) else none := by cases a <;> rfl
theorem qG {xs : List D} {b : D} : cmpD .Eq (.tuple xs) b = if (shp (.tuple xs) && shp b) || bareE (.tuple xs) b then some (PyData.eqv (.tuple xs) b) else none := by cases b <;> rfl
theorem qH {a : D} {xs : List D} : cmpD .Eq a (.tuple xs) = if (shp a && shp (.tuple xs)) || bareE a (.tuple xs) then some (PyData.eqv a (.tuple xs)) else none := by cases a <;> rfl
theorem qI {xs : List D} {b : D} : cmpD .Eq (.list xs) b = if (shp (.list xs) && shp b) || bareE (.list xs) b then some (PyData.eqv (.list xs) b) else none := by cases b <;> rfl
theorem qJ {a : D} {xs : List D} : cmpD .Eq a (.list xs) = if (shp a && shp (.list xs)) || bareE a (.list xs) then some (PyData.eqv a (.list xs)) else none := by cases a <;> rfl
theorem qK  {b : D} : cmpD .Eq .none b = if (shp .none && shp b) || bareE .none b then some (PyData.eqv .none b) else none := by cases b <;> rfl
theorem qL {a : D}  : cmpD .Eq a .none = if (shp a && shp .none) || bareE a .none then some (PyData.eqv a .none) else none := by cases a <;> rfl
theorem qM {xs : Bool} {b : D} : cmpD .Eq (.bool xs) b = if (shp (.bool xs) && shp b) || bareE (.bool xs) b then some (PyData.eqv (.bool xs) b) else none := by cases b <;> rfl
theorem qN {a : D} {xs : Bool} : cmpD .Eq a (.bool xs) = if (shp a && shp (.bool xs)) || bareE a (.bool xs) then some (PyData.eqv a (.bool xs)) else none := by cases a <;> rfl
theorem zq {xs : List D} : bareE (.list xs) (.list []) = true := by cases xs <;> rfl
theorem zr {xs : List D} : bareE (.tuple xs) (.tuple []) = true := by cases xs <;> rfl
theorem qO {xs : List D} {b : D} : cmpD .NotEq (.tuple xs) b = if (shp (.tuple xs) && shp b) || bareE (.tuple xs) b then some (!PyData.eqv (.tuple xs) b) else none := by cases b <;> rfl
theorem qP {a : D} {xs : List D} : cmpD .NotEq a (.tuple xs) = if (shp a && shp (.tuple xs)) || bareE a (.tuple xs) then some (!PyData.eqv a (.tuple xs)) else none := by cases a <;> rfl
theorem qQ {xs : List D} {b : D} : cmpD .NotEq (.list xs) b = if (shp (.list xs) && shp b) || bareE (.list xs) b then some (!PyData.eqv (.list xs) b) else none := by cases b <;> rfl
theorem qR {a : D} {xs : List D} : cmpD .NotEq a (.list xs) = if (shp a && shp (.list xs)) || bareE a (.list xs) then some (!PyData.eqv a (.list xs)) else none := by cases a <;> rfl
theorem qS  {b : D} : cmpD .NotEq .none b = if (shp .none && shp b) || bareE .none b then some (!PyData.eqv .none b) else none := by cases b <;> rfl
theorem qT {a : D}  : cmpD .NotEq a .none = if (shp a && shp .none) || bareE a .none then some (!PyData.eqv a .none) else none := by cases a <;> rfl
theorem qU {xs : Bool} {b : D} : cmpD .NotEq (.bool xs) b = if (shp (.bool xs) && shp b) || bareE (.bool xs) b then some (!PyData.eqv (.bool xs) b) else none := by cases b <;> rfl
theorem qV {a : D} {xs : Bool} : cmpD .NotEq a (.bool xs) = if (shp a && shp (.bool xs)) || bareE a (.bool xs) then some (!PyData.eqv a (.bool xs)) else none := by cases a <;> rfl
theorem zF {G : Gx} {t : Tau} {k : Ds} (x : D) : ev G t (.con x) k = (.ok (.d x) k) := rfl
theorem zG {G : Gx} {t : Tau} {k : Ds} (i : Nat) : ev G t (.var i) k = (match (generalizing := false) varT t i with
    | some (.own _) => .no
    | some s => .ok s k
    | none => .no) := rfl
theorem zH {G : Gx} {t : Tau} {k : Ds} (x : Str) : ev G t (.glob x) k = (opt ((G.glob x).map .d) k) := rfl
theorem zI {G : Gx} {t : Tau} {k : Ds} (op : Operator) (a b : IE) : ev G t (.bop op a b) k = ((dl t a k (ev G t a k)).bind fun x k => (dl t b k (ev G t b k)).bind fun y k => opt ((bopD op x y).map .d) k) := rfl
theorem zJ {G : Gx} {t : Tau} {k : Ds} (a : IE) : ev G t (.neg a) k = ((dl t a k (ev G t a k)).bind fun x k => opt ((negD x).map .d) k) := rfl
theorem zK {G : Gx} {t : Tau} {k : Ds} (a : IE) : ev G t (.not_ a) k = ((dl t a k (ev G t a k)).bind fun x k => opt ((truD x).map fun b => .d (.bool (!b))) k) := rfl
theorem zL {G : Gx} {t : Tau} {k : Ds} (a b : IE) : ev G t (.and_ a b) k = ((dl t a k (ev G t a k)).bind fun x k => match (generalizing := false) truD x with
    | some true => ev G t b k
    | some false => .ok (.d (.bool false)) k
    | none => .no) := rfl
theorem zM {G : Gx} {t : Tau} {k : Ds} (a b : IE) : ev G t (.or_ a b) k = ((dl t a k (ev G t a k)).bind fun x k => match (generalizing := false) truD x with
    | some false => ev G t b k
    | some true => .ok (.d (.bool true)) k
    | none => .no) := rfl
theorem zN {G : Gx} {t : Tau} {k : Ds} (op : CmpOp) (a b : IE) : ev G t (.cmp op a b) k = ((dl t a k (ev G t a k)).bind fun x k => (dl t b k (ev G t b k)).bind fun y k => opt ((cmpD op x y).map fun b => .d (.bool b)) k) := rfl
theorem zO {G : Gx} {t : Tau} {k : Ds} (o p : CmpOp) (a b c : IE) : ev G t (.chain o p a b c) k = ((dl t a k (ev G t a k)).bind fun x k => (dl t b k (ev G t b k)).bind fun y k => match (generalizing := false) cmpD o x y with
    | some true => (dl t c k (ev G t c k)).bind fun z k => opt ((cmpD p y z).map fun b => .d (.bool b)) k
    | some false => .ok (.d (.bool false)) k
    | none => .no) := rfl
theorem zP {G : Gx} {t : Tau} {k : Ds} (c a b : IE) : ev G t (.ite c a b) k = ((dl t c k (ev G t c k)).bind fun x k => match (generalizing := false) truD x with
    | some true => ev G t a k
    | some false => ev G t b k
    | none => .no) := rfl
theorem zQ {G : Gx} {t : Tau} {k : Ds} (es : List IE) : ev G t (.tup es) k = ((evx G t es k).bind fun xs k => if lenOk xs.length then .ok (.d (.tuple xs)) k else .no) := rfl
theorem zR {G : Gx} {t : Tau} {k : Ds} (es : List IE) : ev G t (.lst es) k = ((evx G t es k).bind fun xs k => if lenOk xs.length then .ok (.d (.list xs)) k else .no) := rfl
theorem zS {G : Gx} {t : Tau} {k : Ds} (a i : IE) : ev G t (.idx a i) k = ((dl t a k (ev G t a k)).bind fun x k => (dl t i k (ev G t i k)).bind fun y k => opt ((idxD x y).map .d) k) := rfl
theorem zT {G : Gx} {t : Tau} {k : Ds} (a : IE) (lo hi : Option IE) : ev G t (.sl a lo hi) k = ((dl t a k (ev G t a k)).bind fun x k => (evo G t lo k).bind fun l k => (evo G t hi k).bind fun h k => opt ((slD x l h).map .d) k) := rfl
theorem zU {G : Gx} {t : Tau} {k : Ds} (a : IE) : ev G t (.rev a) k = ((dl t a k (ev G t a k)).bind fun x k => opt ((revD x).map .d) k) := rfl
theorem zV {G : Gx} {t : Tau} {k : Ds} (a : IE) : ev G t (.revl a) k = ((dl t a k (ev G t a k)).bind fun x k => match (generalizing := false) x with
    | .list xs => .ok (.d (.list xs.reverse)) k
    | _ => .no) := rfl
theorem zW {G : Gx} {t : Tau} {k : Ds} (f : Nat) (es : List IE) : ev G t (.call f es) k = ((evs G t es k).bind fun vs k => G.phi f vs k) := rfl
theorem zX {G : Gx} {t : Tau} {k : Ds} (f : Nat) (es : List IE) (p : List Nat) : ev G t (.callk f es p) k = ((evs G t es k).bind fun vs k => if vs.length = p.length then G.phi f (p.map fun i => vs.getD i .deck) k else .no) := rfl
theorem zY {G : Gx} {t : Tau} {k : Ds} (i : Nat) (es : List IE) : ev G t (.callv i es) k = (match (generalizing := false) varT t i with
    | some (.clo j env) => (evs G t es k).bind fun vs k => G.phi j (.clo j env :: vs) k
    | _ => .no) := rfl
theorem zZ {G : Gx} {t : Tau} {k : Ds} (b : Bt) (es : List IE) : ev G t (.blt b es) k = ((evds G t es k).bind fun xs k => opt ((bltD b xs).map .d) k) := rfl
theorem za {G : Gx} {t : Tau} {k : Ds} (y : Ty) (a : IE) : ev G t (.isi y a) k = ((dl t a k (ev G t a k)).bind fun x k => .ok (.d (.bool (isiD y x))) k) := rfl
theorem zb {G : Gx} {t : Tau} {k : Ds} (a : IE) (f : Str) : ev G t (.attr a f) k = ((ev G t a k).bind fun s k => match (generalizing := false) s with
    | .obj _ fs => opt ((fs.lookup f).map .d) k
    | _ => .no) := rfl
theorem zc {G : Gx} {t : Tau} {k : Ds} (j : Nat) : ev G t (.lam j) k = (.ok (.clo j t) k) := rfl
theorem zd {G : Gx} {t : Tau} {k : Ds} (i : Nat) (f : Str) : ev G t (.dkGet i f) k = (match (generalizing := false) varT t i, k with
    | some .deck, some q => if f = q.key then .no else if f = "draws" then .ok (.d (.int q.draws)) k else if f = "mixed" then .ok (.d (.int q.mixed)) k else .no
    | _, _ => .no) := rfl
theorem ze {G : Gx} {t : Tau} {k : Ds} (i : Nat) (f : Str) : ev G t (.dkNe i f) k = (match (generalizing := false) varT t i, k with
    | some .deck, some q => if f = q.key then .ok (.d (.bool (!q.left.isEmpty))) k else .no
    | _, _ => .no) := rfl
theorem zf {G : Gx} {t : Tau} {k : Ds} (i : Nat) (e d : IE) : ev G t (.dget i e d) k = (match (generalizing := false) varT t i with
    | some (.dic ps) => (data (ev G t e k)).bind fun x k => (data (ev G t d k)).bind fun y k => opt ((dicGet ps x y).map .d) k
    | _ => .no) := rfl
theorem zg {G : Gx} {t : Tau} {k : Ds} (ps : List (NestedKey × D)) (e d : IE) : ev G t (.dgetL ps e d) k = ((data (ev G t e k)).bind fun x k => (data (ev G t d k)).bind fun y k => opt ((dicGet ps x y).map .d) k) := rfl
theorem zh {G : Gx} {t : Tau} {k : Ds} (b : Bool) (es : List IE) : ev G t (.rngc b es) k = ((evds G t es k).bind fun xs k => opt ((rngcD b xs).map .d) k) := rfl
theorem zi {G : Gx} {t : Tau} {k : Ds} (ks : List D) (es : List IE) : ev G t (.dct ks es) k = ((evx G t es k).bind fun xs k => opt ((dctD ks xs).map .d) k) := rfl
theorem zj {G : Gx} {t : Tau} {k : Ds} (m : Mt) (a : IE) (es : List IE) : ev G t (.meth m a es) k = ((dl t a k (ev G t a k)).bind fun x k => match (generalizing := false) x with
    | .str u => (evds G t es k).bind fun xs k => opt ((mthD m u xs).map .d) k
    | _ => .no) := rfl
theorem zk {G : Gx} {t : Tau} {k : Ds} (c : Str) (a : IE) (f : Str) : ev G t (.fld c a f) k = ((ev G t a k).bind fun s k => match (generalizing := false) s with
    | .obj c' fs => if c' = c then opt ((fs.lookup f).map .d) k else .no
    | _ => .no) := rfl
theorem mkR_ok {c : Str} {fs : List (Str × D)} {k : Ds} : mkR c (.ok (.obj c fs) k) = .ok (.obj c fs) k := if_pos rfl
theorem zl {G : Gx} {t : Tau} {k : Ds} (c : Str) (f : Nat) (es : List IE) : ev G t (.make c f es) k = ((evs G t es k).bind fun ss k => mkR c (G.phi f (.slf :: ss) k)) := rfl
theorem zm {G : Gx} {t : Tau} {k : Ds} (c m : Str) (f : Nat) (a : IE) (es : List IE) : ev G t (.cmth c m f a es) k = ((ev G t a k).bind fun s k => match (generalizing := false) s with
    | .obj c' fs => if c' = c then (if (fs.lookup m).isNone then (evs G t es k).bind fun ss k => G.phi f (.obj c fs :: ss) k else .no) else .no
    | _ => .no) := rfl
theorem e_xat {G : Gx} {t : Tau} {k : Ds} (i : Nat) (f : Str) : ev G t (.xat i f) k = (match (generalizing := false) varT t i with
    | some (.exn c x) => if G.sub f c then .ok (.d x) k else .no
    | _ => .no) := rfl
theorem e_isx {G : Gx} {t : Tau} {k : Ds} (i : Nat) (cs : List Str) : ev G t (.isx i cs) k = (match (generalizing := false) varT t i with
    | some (.exn c _) => if cs.all fun d => G.sub d d then .ok (.d (.bool (cs.any (G.sub c)))) k else .no
    | _ => .no) := rfl
theorem e_lamc {G : Gx} {t : Tau} {k : Ds} (f j : Nat) : ev G t (.lamc f j) k = ((data (noEx (G.phi f [.clo j t] k))).bind fun x k => .ok (.d x) k) := rfl
theorem x_lamb {G : Gx} {t : Tau} {k : Ds} {j : Nat} {e : IE} : exec G (.lamb [] e) [some (.clo j t)] k = ((ev G t e k).thn [some (.clo j t)] fun s k => .ok (.rt s) [some (.clo j t)] k) := rfl
theorem zn {G : Gx} {t : Tau} {k : Ds} (c : Str) (ns : List Str) (es : List IE) : exec G (.mkobj c ns es) t k = ((evds G t es k).thn t fun xs k => .ok (.rt (.obj c (ns.zip xs))) t k) := rfl
theorem zp {G : Gx} {t : Tau} {k : Ds} (gs : List Tg) (i : Nat) (es : List IE) : exec G (.parG gs i es) t k = ((evIs G t (gs.map (fun _ => (0, false)) ++ [(i, true)]) es k).thn t fun ss k => match (generalizing := false) bindSs i gs ss t with
    | some t => .ok .nx t k
    | none => .no) := rfl
theorem zo {G : Gx} {t : Tau} {k : Ds} (i : Nat) (ps : List (NestedKey × D)) : exec G (.dicB i ps) t k = (if i < t.length then .ok .nx (t.set i (some (.dic ps))) k else .no) := rfl
theorem zt {G : Gx} {t : Tau} {k : Ds} (i : Nat) (e : IE) : exec G (.asg i e) t k = ((ev G t e k).thn t fun s k => .ok .nx (t.set i (some s)) k) := rfl
theorem zu {G : Gx} {t : Tau} {k : Ds} (i : Nat) (e : IE) : exec G (.own i e) t k = ((evI G t true e k).thn t fun s k => .ok .nx (t.set i (some s)) k) := rfl
theorem zv {G : Gx} {t : Tau} {k : Ds} (g : Tg) (e : IE) : exec G (.asgT g e) t k = ((data (ev G t e k)).thn t fun x k => match (generalizing := false) bindG g x t with
    | some t => .ok .nx t k
    | none => .no) := rfl
theorem zw {G : Gx} {t : Tau} {k : Ds} (is : List (Nat × Bool)) (es : List IE) : exec G (.par is es) t k = ((evIs G t is es k).thn t fun ss k => .ok .nx (sets t is ss) k) := rfl
theorem zx {G : Gx} {t : Tau} {k : Ds} (i : Nat) (e : IE) : exec G (.app i e) t k = (match (generalizing := false) varT t i with
    | some (.own xs) => (data (ev G t e k)).thn t fun y k => if lenOk (xs.length + 1) then .ok .nx (t.set i (some (.own (xs ++ [y])))) k else .no
    | _ => .no) := rfl
theorem zy {G : Gx} {t : Tau} {k : Ds} (i : Nat) (e : IE) : exec G (.ext i e) t k = (match (generalizing := false) varT t i with
    | some (.own xs) => (data (ev G t e k)).thn t fun y k => match (generalizing := false) y with
      | .list ys => if lenOk (xs.length + ys.length) then .ok .nx (t.set i (some (.own (xs ++ ys)))) k else .no
      | _ => .no
    | _ => .no) := rfl
theorem zz {G : Gx} {t : Tau} {k : Ds} (i : Nat) (j e : IE) : exec G (.put i j e) t k = (match (generalizing := false) varT t i with
    | some (.own xs) => (data (ev G t e k)).thn t fun y k => (dl t j k (ev G t j k)).thn t fun z k => match (generalizing := false) z with
      | .int j => (match (generalizing := false) putD xs j y with
        | some ys => .ok .nx (t.set i (some (.own ys))) k
        | none => .no)
      | _ => .no
    | _ => .no) := rfl
theorem yA {G : Gx} {t : Tau} {k : Ds} (i : Nat) (op : Operator) (e : IE) : exec G (.aug i op e) t k = (match (generalizing := false) varT t i with
    | some (.d (.int x)) => (dl t e k (ev G t e k)).thn t fun y k => match (generalizing := false) augD op x y with
      | some z => .ok .nx (t.set i (some (.d (.int z)))) k
      | none => .no
    | _ => .no) := rfl
theorem yB {G : Gx} {t : Tau} {k : Ds}  : exec G (.never) t k = (.no) := rfl
theorem yC {G : Gx} {t : Tau} {k : Ds} (e : IE) : exec G (.ex e) t k = ((ev G t e k).thn t fun _ k => .ok .nx t k) := rfl
theorem yD {G : Gx} {t : Tau} {k : Ds} (e : IE) : exec G (.ret e) t k = ((ev G t e k).thn t fun s k => .ok (.rt s) t k) := rfl
theorem yE {G : Gx} {t : Tau} {k : Ds}  : exec G (.retn) t k = (.ok (.rt (.d .none)) t k) := rfl
theorem yF {G : Gx} {t : Tau} {k : Ds}  : exec G (.pass) t k = (.ok .nx t k) := rfl
theorem yG {G : Gx} {t : Tau} {k : Ds}  : exec G (.brk) t k = (.ok .bk t k) := rfl
theorem yH {G : Gx} {t : Tau} {k : Ds}  : exec G (.cont) t k = (.ok .ct t k) := rfl
theorem yI {G : Gx} {t : Tau} {k : Ds} (c : IE) (a b : List IS) : exec G (.ite c a b) t k = ((tst (dl t c k (ev G t c k))).thn t fun z k => match (generalizing := false) z with
    | true => execs G a t k
    | false => execs G b t k) := rfl
theorem yJ {G : Gx} {t : Tau} {k : Ds} (c : Str) (e : IE) : exec G (.raise c e) t k = ((data (ev G t e k)).thn t fun x k => .ex c x t k) := rfl
theorem yK {G : Gx} {t : Tau} {k : Ds} (b : List IS) (hs : List IH) : exec G (.try_ b hs) t k = (match (generalizing := false) execs G b t k with
    | .ex c x t k => if G.sub c c then handle G hs c x t k else .no
    | r => r) := rfl
theorem yL {G : Gx} {t : Tau} {k : Ds} (i : Nat) : exec G (.frz i) t k = (match (generalizing := false) varT t i with
    | some (.own xs) => .ok .nx (t.set i (some (.d (.list xs)))) k
    | some (.d x) => .ok .nx t k
    | _ => .no) := rfl
theorem yM {G : Gx} {t : Tau} {k : Ds} (i : Nat) (f : Str) (e : IE) : exec G (.dkSet i f e) t k = (match (generalizing := false) varT t i with
    | some .deck => (dl t e k (ev G t e k)).thn t fun y k => match (generalizing := false) k, y with
      | some q, .int y => if f = q.key then .no else if f = "draws" then .ok .nx t (some { q with draws := y }) else .no
      | _, _ => .no
    | _ => .no) := rfl
theorem yN {G : Gx} {t : Tau} {k : Ds} (j i : Nat) (f : Str) : exec G (.dkPop j i f) t k = (match (generalizing := false) varT t i, k with
    | some .deck, some q => if f = q.key then (match (generalizing := false) q.left.getLast? with
      | some y => .ok .nx (t.set j (some (.d (.int y)))) (some { q with left := q.left.dropLast })
      | none => .no) else .no
    | _, _ => .no) := rfl
theorem yO {G : Gx} {t : Tau} {k : Ds} (i : Nat) (f : Str) (e : IE) : exec G (.dkApp i f e) t k = (match (generalizing := false) varT t i, k with
    | some .deck, some q => if f = q.key then (dl t e k (ev G t e k)).thn t fun y k => match (generalizing := false) k, y with
      | some q, .int y => if f = q.key then (if q.left.length < 1000 then .ok .nx t (some { q with left := q.left ++ [y] }) else .no) else .no
      | _, _ => .no
      else .no
    | _, _ => .no) := rfl
theorem yP {G : Gx} {t : Tau} {k : Ds} (f : Str) (s m d : IE) : exec G (.dkRet f s m d) t k = ((evI G t true s k).thn t fun s k => (dl t m k (ev G t m k)).thn t fun m k => (dl t d k (ev G t d k)).thn t fun d k => match (generalizing := false) s, m, d, k with
    | .own xs, .int m, .int d, none => if f = "mixed" ∨ f = "draws" then .no else (match (generalizing := false) intsD xs with
      | some ns => if ns.length ≤ 1000 then .ok (.rt .deck) t (some ⟨f, ns, m, d⟩) else .no
      | none => .no)
    | _, _, _, _ => .no) := rfl
theorem zD {G : Gx} {t : Tau} {k : Ds} : execs G [] t k = .ok .nx t k := rfl
theorem zE {G : Gx} {s : IS} {ss : List IS} {t : Tau} {k : Ds} : execs G (s :: ss) t k = (exec G s t k).bind fun t k => execs G ss t k := rfl
/-! ### how a run ends -/
def OkE {α : Type} (r : Rs α) (Q : α → Ds → Prop) : Prop := ∃ a k, r = .ok a k ∧ Q a k
def OkX (r : Xs) (Q : Fl → Tau → Ds → Prop) : Prop := ∃ f t k, r = .ok f t k ∧ Q f t k
theorem OkX.mono {r : Xs} {Q Q' : Fl → Tau → Ds → Prop} (h : OkX r Q) (i : ∀ f t k, Q f t k → Q' f t k) : OkX r Q' := by
  obtain ⟨f, t, k, e, q⟩ := h
  exact ⟨f, t, k, e, i f t k q⟩
theorem OkX.nil {G : Gx} {t : Tau} {k : Ds} {Q : Fl → Tau → Ds → Prop} (h : Q .nx t k) : OkX (execs G [] t k) Q := ⟨_, _, _, rfl, h⟩
/-- one statement, then the others -/
theorem OkX.cons {G : Gx} {s : IS} {ss : List IS} {t : Tau} {k : Ds} {Q : Fl → Tau → Ds → Prop} (h : OkX (exec G s t k) fun f t k => match f with
    | .nx => OkX (execs G ss t k) Q
    | f => Q f t k) : OkX (execs G (s :: ss) t k) Q := by
  obtain ⟨f, t', k', e, q⟩ := h
  have e0 : execs G (s :: ss) t k = (exec G s t k).bind fun t k => execs G ss t k := rfl
  rw [OkX, e0, e]
  cases f with
  | nx => exact q
  | bk => exact ⟨_, _, _, rfl, q⟩
  | ct => exact ⟨_, _, _, rfl, q⟩
  | rt s => exact ⟨_, _, _, rfl, q⟩
theorem run_ok {G : Gx} {ar nm : Nat} {ib : List IS} {ss : List Sl} {k : Ds} {Q : Sl → Ds → Prop} (hl : ss.length = ar) (h : OkX (execs G ib (ss.map some ++ List.replicate (nm - ar) none) k) fun f _ k => match f with
    | .nx => Q (.d .none) k
    | .rt s => Q s k
    | _ => False) : OkE (run G ⟨ar, nm, ib⟩ ss k) Q := by
  obtain ⟨f, t, k', e, q⟩ := h
  have e0 : run G ⟨ar, nm, ib⟩ ss k = if ss.length = ar then (match execs G ib (ss.map some ++ List.replicate (nm - ar) none) k with
    | .ok .nx _ k => .ok (.d .none) k
    | .ok (.rt s) _ k => .ok s k
    | .ex c x _ k => .ex c x k
    | _ => .no) else .no := rfl
  rw [OkE, e0, if_pos hl, e]
  cases f with
  | nx => exact ⟨_, _, rfl, q⟩
  | rt s => exact ⟨_, _, rfl, q⟩
  | bk => exact q.elim
  | ct => exact q.elim
/-! ### loops -/
theorem OkX.for {f : D → Tau → Ds → Xs} (I : Nat → Tau → Ds → Prop) {Q : Fl → Tau → Ds → Prop} : ∀ (xs : List D) (j : Nat) (t : Tau) (k : Ds), I j t k → (∀ i x t k, xs[i]? = some x → I (j + i) t k → OkX (f x t k) fun fl t k => match fl with
    | .nx => I (j + i + 1) t k
    | .ct => I (j + i + 1) t k
    | .bk => Q .nx t k
    | .rt s => Q (.rt s) t k) → (∀ t k, I (j + xs.length) t k → Q .nx t k) → OkX (forL f xs t k) Q
  | [], j, t, k, h, _, hd => ⟨_, _, _, rfl, hd t k h⟩
  | x :: xs, j, t, k, h, hs, hd => by
    obtain ⟨fl, t', k', e, q⟩ := hs 0 x t k rfl h
    have e0 : forL f (x :: xs) t k = (match f x t k with
      | .ok .nx t k => forL f xs t k
      | .ok .ct t k => forL f xs t k
      | .ok .bk t k => .ok .nx t k
      | r => r) := rfl
    have rest : I (j + 0 + 1) t' k' → OkX (forL f xs t' k') Q := fun h' => OkX.for I xs (j + 1) t' k' h' (fun i y t k hy hi => by
      have z := hs (i + 1) y t k (by simpa using hy) (by rw [show j + (i + 1) = j + 1 + i by omega]; exact hi)
      rw [show j + (i + 1) + 1 = j + 1 + i + 1 by omega] at z
      exact z) (fun t k z => hd t k (by rw [List.length_cons, show j + (xs.length + 1) = j + 1 + xs.length by omega]; exact z))
    rw [OkX, e0, e]
    cases fl with
    | nx => exact rest q
    | ct => exact rest q
    | bk => exact ⟨_, _, _, rfl, q⟩
    | rt s => exact ⟨_, _, _, rfl, q⟩
theorem OkE.comp {f : D → Ds → Rs (Option D)} (I : Nat → List D → Ds → Prop) : ∀ (xs : List D) (j : Nat) (acc : List D) (k : Ds), I j acc k → (∀ i x acc k, xs[i]? = some x → I (j + i) acc k → OkE (f x k) fun o k => I (j + i + 1) (match o with | some y => acc ++ [y] | none => acc) k) →
    OkE (compL f xs k) fun ys k => I (j + xs.length) (acc ++ ys) k
  | [], j, acc, k, h, _ => ⟨[], k, rfl, by simpa using h⟩
  | x :: xs, j, acc, k, h, hs => by
    obtain ⟨o, k', e, q⟩ := hs 0 x acc k rfl h
    obtain ⟨ys, k2, e2, q2⟩ := OkE.comp I xs (j + 1) _ k' q (fun i y acc k hy hi => by
      have z := hs (i + 1) y acc k (by simpa using hy) (by rw [show j + (i + 1) = j + 1 + i by omega]; exact hi)
      rw [show j + (i + 1) + 1 = j + 1 + i + 1 by omega] at z
      exact z)
    refine ⟨match (generalizing := false) o with | some y => y :: ys | none => ys, k2, ?_, ?_⟩
    · show (f x k).bind (fun o k => (compL f xs k).bind fun r k => .ok (match o with | some y => y :: r | none => r) k) = _
      rw [e, yQ, e2, yQ]
    · rw [List.length_cons, show j + (xs.length + 1) = j + 1 + xs.length by omega]
      cases o with
      | none => exact q2
      | some y => simpa using q2
theorem OkE.bind {α β : Type} {r : Rs α} {f : α → Ds → Rs β} {Q : β → Ds → Prop} (h : OkE r fun a k => OkE (f a k) Q) : OkE (r.bind f) Q := by
  obtain ⟨a, k, e, b, k2, e2, q⟩ := h
  exact ⟨b, k2, by rw [e, yQ, e2], q⟩
theorem OkX.thn {α : Type} {r : Rs α} {t : Tau} {f : α → Ds → Xs} {Q : Fl → Tau → Ds → Prop} (h : OkE r fun a k => OkX (f a k) Q) : OkX (r.thn t f) Q := by
  obtain ⟨a, k, e, q⟩ := h
  rw [e]; exact q
theorem OkE.eq {α : Type} {r : Rs α} {a : α} {k : Ds} {Q : α → Ds → Prop} (e : r = .ok a k) (h : Q a k) : OkE r Q := ⟨a, k, e, h⟩
theorem OkE.mono {α : Type} {r : Rs α} {Q Q' : α → Ds → Prop} (h : OkE r Q) (i : ∀ a k, Q a k → Q' a k) : OkE r Q' := by
  obtain ⟨a, k, e, q⟩ := h
  exact ⟨a, k, e, i a k q⟩
/-! ### the deck -/
def dkOk (key : Str) (k : Ds) : Prop := ∃ q : Dk, k = some q ∧ q.key = key ∧ q.left.length ≤ 63
def i_draw (key : Str) (A B C D' E F G H I J : Int) : List IS := [.dkSet 0 "draws" (.bop .Add (.dkGet 0 "draws") (.con (.int 1))), .asg 2 (.bop .Add (.dkGet 0 "mixed") (.bop .Mult (.con (.int A)) (.dkGet 0 "draws"))), .ite (.dkNe 0 key) [.dkPop 3 0 key, .ite (.cmp .GtE (.var 3) (.bop .Pow (.con (.int 10)) (.con (.int 18)))) [.dkApp 0 key (.bop .FloorDiv (.var 3) (.blt .max [.con (.int 2), .var 1])), .ret (.bop .Mod (.blt .int [.var 3]) (.var 1))] [], .asg 2 (.bop .Add (.var 2) (.bop .Mod (.blt .int [.var 3]) (.con (.int B))))] [], .asg 2 (.bop .Mod (.blt .int [.bop .Add (.bop .Mult (.var 2) (.con (.int C))) (.con (.int D'))]) (.con (.int E))), .asg 2 (.bop .Mod (.blt .int [.bop .Add (.bop .Add (.bop .Mult (.var 2) (.var 2)) (.bop .Mult (.con (.int F)) (.dkGet 0 "draws"))) (.con (.int G))]) (.con (.int H))), .asg 2 (.bop .Mod (.blt .int [.bop .Mult (.var 2) (.con (.int I))]) (.con (.int J))), .ret (.bop .Mod (.blt .int [.bop .FloorDiv (.var 2) (.con (.int 64))]) (.var 1))]
theorem mulOk_l {i j : Int} (h : smallI i = true) : mulOk i j = true := by unfold mulOk; rw [h]; rfl
theorem mulOk_r {i j : Int} (h : smallI j = true) : mulOk i j = true := by unfold mulOk; rw [h]; simp
theorem smallI_of {i : Int} (h : 0 ≤ i) (h2 : i < 4294967296) : smallI i = true := by unfold smallI; apply decide_eq_true; omega
theorem draw_ok {G : Gx} {key : Str} {A B C D' E F G' H I J : Int} (k1 : key ≠ "draws") (k2 : key ≠ "mixed") (hA : smallI A = true) (hB : 0 < B) (hC : smallI C = true) (hE : 0 < E) (hE2 : E < 4294967296) (hF : smallI F = true) (hH : 0 < H) (hI : smallI I = true) (hJ : 0 < J)
    {m : Int} (hm : 0 < m) (hm2 : m.natAbs.log2 < 9000) {k : Ds} (hd : dkOk key k) : OkE (run G ⟨2, 4, i_draw key A B C D' E F G' H I J⟩ [.deck, .d (.int m)] k) fun s k' => dkOk key k' ∧ ∃ q, s = .d (.int q) ∧ 0 ≤ q ∧ q < m := by
  obtain ⟨⟨ky, left, mixed, draws⟩, rfl, rfl, hl⟩ := hd
  have hl : left.length ≤ 63 := hl
  have n1 : ¬ ("draws" : Str) = ky := fun z => k1 z.symm
  have n2 : ¬ ("mixed" : Str) = ky := fun z => k2 z.symm
  have n3 : ¬ ("mixed" : Str) = "draws" := by decide
  -- the tail: from any figure
  have tail : ∀ (f : Int) (c : Option Sl) (lf : List Int), lf.length ≤ 63 → OkX (execs G [.asg 2 (.bop .Mod (.blt .int [.bop .Add (.bop .Mult (.var 2) (.con (.int C))) (.con (.int D'))]) (.con (.int E))), .asg 2 (.bop .Mod (.blt .int [.bop .Add (.bop .Add (.bop .Mult (.var 2) (.var 2)) (.bop .Mult (.con (.int F)) (.dkGet 0 "draws"))) (.con (.int G'))]) (.con (.int H))), .asg 2 (.bop .Mod (.blt .int [.bop .Mult (.var 2) (.con (.int I))]) (.con (.int J))), .ret (.bop .Mod (.blt .int [.bop .FloorDiv (.var 2) (.con (.int 64))]) (.var 1))] [some .deck, some (.d (.int m)), some (.d (.int f)), c] (some ⟨ky, lf, mixed, draws + 1⟩))
      (fun fl _ k => match fl with | .nx => (dkOk ky k ∧ ∃ q, Sl.d PyData.none = .d (.int q) ∧ 0 ≤ q ∧ q < m) | .rt s => dkOk ky k ∧ ∃ q, s = .d (.int q) ∧ 0 ≤ q ∧ q < m | _ => False) := by
    intro f c lf hlf
    have e64 : divOk 64 = true := by decide
    have s1 : smallI ((f * C + D') % E) = true := smallI_of (Int.emod_nonneg _ (by omega)) (Int.lt_trans (Int.emod_lt_of_pos _ hE) hE2)
    simp only [execs, exec, ev, evds, dl, lend, varT, data, dat, opt, yQ, yR, yS, List.getD_cons_zero, List.getD_cons_succ, List.set_cons_zero, List.set_cons_succ, bopD, bltD, Option.map_some, mulOk_r hC, mulOk_l hF, mulOk_r hI, mulOk_l s1, if_true, if_pos hE, if_pos hH, if_pos hJ, if_pos hm, e64, n1, n2, n3, if_false]
    exact ⟨_, _, _, rfl, ⟨_, rfl, rfl, hlf⟩, _, rfl, Int.emod_nonneg _ (by omega), Int.emod_lt_of_pos _ hm⟩
  have e18 : powOk 10 18 = true := by decide
  have p18 : (10 : Int) ^ (18 : Int).toNat = 1000000000000000000 := by decide
  have hmx : divOk (if m > 2 then m else 2) = true := by
    unfold divOk
    rw [Bool.and_eq_true, decide_eq_true_iff, decide_eq_true_iff]
    split
    · exact ⟨hm, hm2⟩
    · exact ⟨by omega, by decide⟩
  refine run_ok rfl ?_
  show OkX (execs G (i_draw ky A B C D' E F G' H I J) [some .deck, some (.d (.int m)), none, none] (some ⟨ky, left, mixed, draws⟩)) _
  unfold i_draw
  refine OkX.cons ⟨.nx, [some .deck, some (.d (.int m)), none, none], some ⟨ky, left, mixed, draws + 1⟩, ?_, ?_⟩
  · simp only [exec, ev, dl, lend, varT, data, dat, opt, yQ, yR, List.getD_cons_zero, List.getD_cons_succ, bopD, Option.map_some, if_true, n1, if_false]
  refine OkX.cons ⟨.nx, [some .deck, some (.d (.int m)), some (.d (.int (mixed + A * (draws + 1)))), none], some ⟨ky, left, mixed, draws + 1⟩, ?_, ?_⟩
  · simp only [exec, ev, dl, lend, varT, data, dat, opt, yQ, yR, List.getD_cons_zero, List.getD_cons_succ, List.set_cons_zero, List.set_cons_succ, bopD, Option.map_some, mulOk_l hA, if_true, n1, n2, n3, if_false]
  cases hlast : left.getLast? with
  | none =>
    have hnil : left = [] := List.getLast?_eq_none_iff.mp hlast
    subst hnil
    refine OkX.cons ⟨.nx, _, _, ?_, tail (mixed + A * (draws + 1)) none [] (by simp)⟩
    simp only [exec, execs, ev, dl, lend, varT, data, dat, opt, tst, truD, yQ, yR, List.getD_cons_zero, Option.map_some, if_true, List.isEmpty_nil, Bool.not_true]
  | some c =>
    have hne : left.isEmpty = false := by
      cases left with
      | nil => cases hlast
      | cons _ _ => rfl
    by_cases hc : (1000000000000000000 : Int) ≤ c
    · refine OkX.cons ⟨.rt (.d (.int (c % m))), [some .deck, some (.d (.int m)), some (.d (.int (mixed + A * (draws + 1)))), some (.d (.int c))], some ⟨ky, left.dropLast ++ [c / if m > 2 then m else 2], mixed, draws + 1⟩, ?_, ⟨_, rfl, rfl, ?_⟩, _, rfl, Int.emod_nonneg _ (by omega), Int.emod_lt_of_pos _ hm⟩
      · have hlen : left.dropLast.length < 1000 := by rw [List.length_dropLast]; omega
        simp only [exec, execs, ev, evds, dl, lend, varT, data, dat, opt, tst, truD, yQ, yR, yS, yT, List.getD_cons_zero, List.getD_cons_succ, List.set_cons_zero, List.set_cons_succ, Option.map_some, if_true, hne, Bool.not_false, hlast, bopD, bltD, cmpD, e18, p18, decide_eq_true hc, hmx, if_pos hm, hlen]
      · rw [List.length_append, List.length_dropLast]
        have : left.length ≠ 0 := fun z => by rw [List.length_eq_zero_iff] at z; rw [z] at hlast; cases hlast
        simp only [List.length_singleton]
        omega
    · refine OkX.cons ⟨.nx, _, some ⟨ky, left.dropLast, mixed, draws + 1⟩, ?_, tail (mixed + A * (draws + 1) + c % B) (some (.d (.int c))) left.dropLast (by rw [List.length_dropLast]; omega)⟩
      simp only [exec, execs, ev, evds, dl, lend, varT, data, dat, opt, tst, truD, yQ, yR, yS, yT, List.getD_cons_zero, List.getD_cons_succ, List.set_cons_zero, List.set_cons_succ, Option.map_some, if_true, hne, Bool.not_false, hlast, bopD, bltD, cmpD, e18, p18, decide_eq_false hc, if_pos hB]
/-- one turn of a for -/
def forB (G : Gx) (g : Tg) (b : List IS) : D → Tau → Ds → Xs := fun x t k => match bindG g x t with
  | some t => execs G b t k
  | none => .no
theorem exec_for {G : Gx} {g : Tg} {it : IT} {b : List IS} {t : Tau} {k : Ds} : exec G (.for_ g it b) t k = if lentI t it then .no else (evi G t it k).thn t fun xs k => forL (forB G g b) xs t k := rfl
theorem forB_ok {G : Gx} {g : Tg} {b : List IS} {x : D} {t t' : Tau} {k : Ds} (h : bindG g x t = some t') : forB G g b x t k = execs G b t' k := by unfold forB; rw [h]
/-- one turn of a comprehension -/
def cmpF (G : Gx) (t : Tau) (e : IE) (g : Tg) (cs : List IE) (ws : List Nat) : D → Ds → Rs (Option D) := fun x k => match bindG g x (wipeT t ws) with
  | some t' => (evc G t' cs k).bind fun b k => if b then (data (ev G t' e k)).bind fun y k => .ok (some y) k else .ok none k
  | none => .no
/-- one statement that goes on -/
theorem OkX.step {G : Gx} {s : IS} {ss : List IS} {t t' : Tau} {k k' : Ds} {Q : Fl → Tau → Ds → Prop} (h : exec G s t k = .ok .nx t' k') (h2 : OkX (execs G ss t' k') Q) : OkX (execs G (s :: ss) t k) Q := OkX.cons ⟨.nx, t', k', h, h2⟩
theorem OkX.ret {G : Gx} {s : IS} {ss : List IS} {t t' : Tau} {k k' : Ds} {v : Sl} {Q : Fl → Tau → Ds → Prop} (h : exec G s t k = .ok (.rt v) t' k') (h2 : Q (.rt v) t' k') : OkX (execs G (s :: ss) t k) Q := OkX.cons ⟨.rt v, t', k', h, h2⟩
theorem OkX.ok {f : Fl} {t : Tau} {k : Ds} {Q : Fl → Tau → Ds → Prop} (h : Q f t k) : OkX (.ok f t k) Q := ⟨_, _, _, rfl, h⟩
theorem OkX.of {r : Xs} {f : Fl} {t : Tau} {k : Ds} {Q : Fl → Tau → Ds → Prop} (e : r = .ok f t k) (h : Q f t k) : OkX r Q := ⟨_, _, _, e, h⟩
theorem OkE.fin {r : Xs} {Q : Sl → Ds → Prop} (h : OkX r fun f _ k => match f with
    | .nx => Q (.d .none) k
    | .rt s => Q s k
    | _ => False) : OkE (_root_.Q.fin r) Q := by
  obtain ⟨f, t, k, e, q⟩ := h
  rw [e]
  cases f with
  | nx => exact ⟨_, _, rfl, q⟩
  | rt s => exact ⟨_, _, rfl, q⟩
  | bk => exact q.elim
  | ct => exact q.elim
end Q

namespace Q
open PySem
theorem cut_map {α β : Type} {f : α → β} {xs : List α} {lo hi : Option Int} : cutL (xs.map f) lo hi = (cutL xs lo hi).map f := by
  unfold cutL
  rw [List.length_map, List.map_take, List.map_drop]
theorem cut_len {α : Type} {xs : List α} {lo hi : Option Int} : (cutL xs lo hi).length ≤ xs.length := by
  unfold cutL
  rw [List.length_take, List.length_drop]; omega
theorem ints_map (ns : List Int) : intsD (ns.map PyData.int) = some ns := by
  induction ns with
  | nil => rfl
  | cons n ns ih => show (intsD (ns.map PyData.int)).map (n :: ·) = _; rw [ih]; rfl
def i_deck (key : Str) (A M B C D' : Int) : List IS := [.asg 1 (.con (.int A)), .for_ (.name 2) (.seq (.sl (.var 0) none (some (.con (.int 63))))) [.asg 1 (.bop .Mod (.blt .int [.bop .Add (.bop .Add (.bop .Mult (.var 1) (.con (.int M))) (.bop .Mod (.blt .int [.var 2]) (.con (.int B)))) (.con (.int C))]) (.con (.int D')))], .dkRet key (.revl (.blt .list [.sl (.var 0) none (some (.con (.int 63)))])) (.var 1) (.con (.int 0))]
theorem deck_ok {G : Gx} {key : Str} {A M B C D' : Int} (k1 : key ≠ "draws") (k2 : key ≠ "mixed") (hM : smallI M = true) (hB : 0 < B) (hD : 0 < D') {ns : List Int} (hn : ns.length ≤ 63) :
    OkE (run G ⟨1, 3, i_deck key A M B C D'⟩ [.d (.list (ns.map PyData.int))] none) fun s k => s = .deck ∧ dkOk key k := by
  have hcl : (cutL ns none (some 63)).length ≤ 63 := Nat.le_trans cut_len hn
  refine run_ok rfl ?_
  show OkX (execs G (i_deck key A M B C D') [some (.d (.list (ns.map PyData.int))), none, none] none) _
  unfold i_deck
  refine OkX.cons ⟨.nx, [some (.d (.list (ns.map PyData.int))), some (.d (.int A)), none], none, by simp only [exec, ev, yR, List.set_cons_succ, List.set_cons_zero], ?_⟩
  refine OkX.cons ?_
  have e1 : ∀ c : Option Sl, ∀ m : Int, slD (.list (ns.map PyData.int)) none (some 63) = some (.list ((cutL ns none (some 63)).map PyData.int)) := fun _ _ => by
    show some (PyData.list (cutL (ns.map PyData.int) none (some 63))) = _
    rw [cut_map]
  have e2 := e1 none 0
  have inv : OkX (forL (fun x t k => match bindG (.name 2) x t with
      | some t => execs G [.asg 1 (.bop .Mod (.blt .int [.bop .Add (.bop .Add (.bop .Mult (.var 1) (.con (.int M))) (.bop .Mod (.blt .int [.var 2]) (.con (.int B)))) (.con (.int C))]) (.con (.int D')))] t k
      | none => .no) ((cutL ns none (some 63)).map PyData.int) [some (.d (.list (ns.map PyData.int))), some (.d (.int A)), none] none) fun f t k => f = .nx ∧ k = none ∧ ∃ (m : Int) (c : Option Sl), t = [some (.d (.list (ns.map PyData.int))), some (.d (.int m)), c] := by
    refine OkX.for (fun _ t k => k = none ∧ ∃ (m : Int) (c : Option Sl), t = [some (.d (.list (ns.map PyData.int))), some (.d (.int m)), c]) _ 0 _ _ ⟨rfl, A, none, rfl⟩ (fun i x t k hx ht => ?_) fun t k ht => ⟨rfl, ht⟩
    obtain ⟨rfl, m, c, rfl⟩ := ht
    rw [List.getElem?_map] at hx
    cases hc : (cutL ns none (some 63))[i]? with
    | none => rw [hc] at hx; cases hx
    | some z =>
      rw [hc] at hx
      cases hx
      refine ⟨.nx, [some (.d (.list (ns.map PyData.int))), some (.d (.int ((m * M + z % B + C) % D'))), some (.d (.int z))], none, ?_, rfl, _, _, rfl⟩
      simp only [bindG, execs, exec, ev, evds, dl, lend, varT, data, dat, opt, yQ, yR, yS, List.getD_cons_zero, List.getD_cons_succ, List.set_cons_zero, List.set_cons_succ, bopD, bltD, Option.map_some, mulOk_r hM, if_true, if_pos hB, if_pos hD]
  have e3 : exec G (.for_ (.name 2) (.seq (.sl (.var 0) none (some (.con (.int 63))))) [.asg 1 (.bop .Mod (.blt .int [.bop .Add (.bop .Add (.bop .Mult (.var 1) (.con (.int M))) (.bop .Mod (.blt .int [.var 2]) (.con (.int B)))) (.con (.int C))]) (.con (.int D')))]) [some (.d (.list (ns.map PyData.int))), some (.d (.int A)), none] none = forL (fun x t k => match bindG (.name 2) x t with
      | some t => execs G [.asg 1 (.bop .Mod (.blt .int [.bop .Add (.bop .Add (.bop .Mult (.var 1) (.con (.int M))) (.bop .Mod (.blt .int [.var 2]) (.con (.int B)))) (.con (.int C))]) (.con (.int D')))] t k
      | none => .no) ((cutL ns none (some 63)).map PyData.int) [some (.d (.list (ns.map PyData.int))), some (.d (.int A)), none] none := by
    simp only [exec, lentI, isLent, lend, evi, ev, evo, dl, varT, data, dat, opt, yQ, yR, List.getD_cons_zero, Option.map_some, Option.isSome_none, e2, itemsD, Bool.false_eq_true, if_false] <;> rfl
  rw [e3]
  refine inv.mono fun f t k h => ?_
  obtain ⟨rfl, rfl, m, c, rfl⟩ := h
  refine OkX.cons ⟨.rt .deck, [some (.d (.list (ns.map PyData.int))), some (.d (.int m)), c], some ⟨key, (cutL ns none (some 63)).reverse, m, 0⟩, ?_, rfl, _, rfl, rfl, by simpa using hcl⟩
  have nk : ¬ (key = "mixed" ∨ key = "draws") := fun z => z.elim k2 k1
  have hl : (cutL ns none (some 63)).reverse.length ≤ 1000 := by rw [List.length_reverse]; omega
  have e4 : intsD ((cutL ns none (some 63)).map PyData.int).reverse = some (cutL ns none (some 63)).reverse := by rw [← List.map_reverse, ints_map]
  simp only [exec, evI, ev, evds, evo, dl, lend, varT, data, dat, opt, ownS, yQ, yR, List.getD_cons_zero, List.getD_cons_succ, Option.map_some, e2, bltD, itemsD, Option.bind_some, nk, if_false, e4, hl, if_true]
end Q

namespace Q
open PySem
/-! ### what repr shows, and how long it is -/
structure Rep (d : D) (c e : Nat) : Prop where
  s : d.showable = true
  l : d.shown.length ≤ c
  p : d.depth ≤ e
structure RepA (ds : List D) (c e : Nat) : Prop where
  s : PyData.showableAll ds = true
  l : piled (PyData.shownAll ds) ≤ c
  p : PyData.depthAll ds ≤ e
theorem Rep.mono {d : D} {c e c' e' : Nat} (h : Rep d c e) (h1 : c ≤ c') (h2 : e ≤ e') : Rep d c' e' := ⟨h.s, Nat.le_trans h.l h1, Nat.le_trans h.p h2⟩
theorem RepA.mono {d : List D} {c e c' e' : Nat} (h : RepA d c e) (h1 : c ≤ c') (h2 : e ≤ e') : RepA d c' e' := ⟨h.s, Nat.le_trans h.l h1, Nat.le_trans h.p h2⟩
theorem rep_none : Rep .none 4 0 := ⟨by simp [PyData.showable], by simp only [PyData.shown]; decide, by simp [PyData.depth]⟩
theorem rep_bool {b : Bool} : Rep (.bool b) 5 0 := ⟨by simp [PyData.showable], by simp only [PyData.shown]; cases b <;> decide, by simp [PyData.depth]⟩
theorem rep_int {i : Int} {b : Nat} (hb : 0 < b) (h : i.natAbs.log2 < b) (h2 : b ≤ 1920) : Rep (.int i) (b + 1) 0 := by
  refine ⟨by simp only [PyData.showable]; exact decide_eq_true (by omega), ?_, by simp [PyData.depth]⟩
  simp only [PyData.shown]
  have e := int_text_length_le hb h
  show (Str.ofString (toString i)).length ≤ b + 1
  rw [ofString_length]; exact e
theorem piled_cons (t : Str) (ts : List Str) : piled (t :: ts) = t.length + 2 + piled ts := by simp [piled]
theorem textFrom_le : ∀ (ts : List Str) (k : Nat) (acc : Str), (textFrom k acc ts).length ≤ acc.length + piled ts
  | [], k, acc => by simp [textFrom, piled]
  | t :: ts, k, acc => by
    have h := textFrom_le ts (k + 1) (acc ++ (if k > 0 then ", " else "" : String) ++ t)
    rw [strLen_append, strLen_append] at h
    have h2 : (Str.ofString (if k > 0 then ", " else "" : String)).length ≤ 2 := by split <;> decide
    rw [piled_cons]
    show (textFrom (k + 1) (acc ++ (if k > 0 then ", " else "" : String) ++ t) ts).length ≤ _
    omega
theorem repA_nil : RepA [] 0 0 := ⟨by simp [PyData.showableAll], by simp [PyData.shownAll, piled], by simp [PyData.depthAll]⟩
theorem repA_cons {d : D} {ds : List D} {c c' e e' : Nat} (h : Rep d c e) (t : RepA ds c' e') : RepA (d :: ds) (c + 2 + c') (max e e') := by
  refine ⟨by simp [PyData.showableAll, h.s, t.s], ?_, ?_⟩
  · simp only [PyData.shownAll]
    rw [piled_cons]
    have := h.l; have := t.l; omega
  · simp only [PyData.depthAll]
    have := h.p; have := t.p; omega
theorem rep_list {ds : List D} {c e : Nat} (h : RepA ds c e) : Rep (.list ds) (c + 2) (e + 1) := by
  refine ⟨by simp [PyData.showable, h.s], ?_, by simp only [PyData.depth]; have := h.p; omega⟩
  simp only [PyData.shown, listText]
  rw [strLen_append]
  have h1 := textFrom_le (PyData.shownAll ds) 0 "["
  have h2 : (Str.ofString "[").length = 1 := rfl
  have h3 : (Str.ofString "]").length = 1 := rfl
  have := h.l
  omega
theorem rep_tuple {ds : List D} {c e : Nat} (h : RepA ds c e) : Rep (.tuple ds) (c + 3) (e + 1) := by
  refine ⟨by simp [PyData.showable, h.s], ?_, by simp only [PyData.depth]; have := h.p; omega⟩
  simp only [PyData.shown, tupleText]
  rw [strLen_append, strLen_append]
  have h2 : (Str.ofString "(").length = 1 := rfl
  have h3 : (Str.ofString (if (PyData.shownAll ds).length == 1 then ",)" else ")" : String)).length ≤ 2 := by split <;> decide
  have h4 : (Str.join ", " (PyData.shownAll ds)).length ≤ piled (PyData.shownAll ds) := by
    by_cases e : PyData.shownAll ds = []
    · rw [e]; exact Nat.zero_le _
    · have := join_length_add _ e; omega
  have := h.l
  omega
theorem repr_of {d : D} {c e : Nat} (h : Rep d c e) (hc : c ≤ 16000000) (he : e ≤ 60) : bltD .repr [d] = some (.str d.shown) := by
  have h1 : (d.showable && lenOk d.shown.length && decide (d.depth ≤ 60)) = true := by
    rw [Bool.and_eq_true, Bool.and_eq_true]
    refine ⟨⟨h.s, ?_⟩, decide_eq_true (Nat.le_trans h.p he)⟩
    unfold lenOk
    rw [decide_eq_true_iff, sizeLine_eq]
    exact Nat.le_trans h.l (by omega)
  show (if d.showable && lenOk d.shown.length && decide (d.depth ≤ 60) then some (PyData.str d.shown) else none) = _
  rw [if_pos h1]
theorem log2_lt {i : Int} {b : Nat} (h : i.natAbs < 2 ^ b) (hb : 0 < b) : i.natAbs.log2 < b := by
  by_cases e : i.natAbs = 0
  · rw [e]; simpa using hb
  · exact (Nat.log2_lt e).mpr h
end Q

namespace Q
open PySem
def i_deck2 (key : Str) (A M B C D' : Int) : List IS := [.asg 1 (.con (.int A)), .for_ (.name 2) (.seq (.sl (.var 0) none (some (.con (.int 63))))) [.asg 1 (.bop .Mod (.blt .int [.bop .Add (.bop .Add (.bop .Mult (.var 1) (.con (.int M))) (.bop .Mod (.blt .int [.var 2]) (.con (.int B)))) (.con (.int C))]) (.con (.int D')))], .dkRet key (.revl (.comp (.blt .int [.var 2]) (.name 2) (.seq (.sl (.var 0) none (some (.con (.int 63))))) [] [2])) (.var 1) (.con (.int 0))]
/-- the law's drawing: a number below m -/
class Draw (W : Wd) where
  key : Str
  ok : ∀ {fuel n : Nat} {k : Ds} {m : Int}, 0 < m → m.natAbs.log2 < 9000 → dkOk key k → OkE (W.ph fuel (n + 1) 9 [.deck, .d (.int m)] k) fun s k' => dkOk key k' ∧ ∃ q, s = .d (.int q) ∧ 0 ≤ q ∧ q < m
abbrev dkO (W : Wd) [Draw W] (k : Ds) : Prop := dkOk (Draw.key W) k
class Deck (W : Wd) [Draw W] : Prop where
  ok : ∀ {fuel n : Nat} {ns : List Int}, ns.length ≤ 63 → OkE (W.ph fuel (n + 1) 8 [.d (.list (ns.map PyData.int))] none) fun s k => s = .deck ∧ dkO W k
end Q

namespace Q
open PySem
class C_KINDS_a8b5 (W : Wd) : Prop where eq : W.gl "KINDS" = some (.tuple [.str "one", .str "pair"])
class C_MODES_2a7a (W : Wd) : Prop where eq : W.gl "MODES" = some (.tuple [.str "down", .str "up", .str "zero", .str "even"])
def i_p_two : List IS := [.ret (.bop .LShift (.con (.int 1)) (.var 0))]
class E_p_two (W : Wd) : Prop where eq : ∀ fuel n ss k, W.ph fuel (n + 1) 0 ss k = run (W.G fuel n) ⟨1, 1, i_p_two⟩ ss k
theorem u_p_two {W : Wd} [h : E_p_two W] {fuel n : Nat} {a0 : Sl} {k : Ds} : W.ph fuel (n + 1) 0 [a0] k = fin (execs (W.G fuel n) i_p_two [some a0] k) := h.eq fuel n _ k
def i_p_is_integer : List IS := [.ret (.and_ (.isi .int (.var 0)) (.not_ (.isi .bool (.var 0))))]
class E_p_is_integer (W : Wd) : Prop where eq : ∀ fuel n ss k, W.ph fuel (n + 1) 1 ss k = run (W.G fuel n) ⟨1, 1, i_p_is_integer⟩ ss k
theorem u_p_is_integer {W : Wd} [h : E_p_is_integer W] {fuel n : Nat} {a0 : Sl} {k : Ds} : W.ph fuel (n + 1) 1 [a0] k = fin (execs (W.G fuel n) i_p_is_integer [some a0] k) := h.eq fuel n _ k
def i_p_is_tuple : List IS := [.ret (.and_ (.isi .tuple (.var 0)) (.cmp .Eq (.blt .len [.var 0]) (.var 1)))]
class E_p_is_tuple (W : Wd) : Prop where eq : ∀ fuel n ss k, W.ph fuel (n + 1) 2 ss k = run (W.G fuel n) ⟨2, 2, i_p_is_tuple⟩ ss k
theorem u_p_is_tuple {W : Wd} [h : E_p_is_tuple W] {fuel n : Nat} {a0 a1 : Sl} {k : Ds} : W.ph fuel (n + 1) 2 [a0, a1] k = fin (execs (W.G fuel n) i_p_is_tuple [some a0, some a1] k) := h.eq fuel n _ k
def i_p_is_scheme_value : List IS := [.ite (.or_ (.not_ (.call 2 [.var 0, .con (.int 2)])) (.or_ (.not_ (.call 1 [.idx (.var 0) (.con (.int 0))])) (.or_ (.not_ (.call 1 [.idx (.var 0) (.con (.int 1))])) (.not_ (.chain .LtE .LtE (.con (.int 1)) (.idx (.var 0) (.con (.int 0))) (.con (.int 3))))))) [.ret (.con (.bool false))] [], .ret (.chain .LtE .Lt (.call 0 [.bop .Sub (.idx (.var 0) (.con (.int 0))) (.con (.int 1))]) (.idx (.var 0) (.con (.int 1))) (.call 0 [.idx (.var 0) (.con (.int 0))]))]
class E_p_is_scheme_value (W : Wd) : Prop where eq : ∀ fuel n ss k, W.ph fuel (n + 1) 3 ss k = run (W.G fuel n) ⟨1, 1, i_p_is_scheme_value⟩ ss k
theorem u_p_is_scheme_value {W : Wd} [h : E_p_is_scheme_value W] {fuel n : Nat} {a0 : Sl} {k : Ds} : W.ph fuel (n + 1) 3 [a0] k = fin (execs (W.G fuel n) i_p_is_scheme_value [some a0] k) := h.eq fuel n _ k
def i_p_need_scheme : List IS := [.ite (.not_ (.call 3 [.var 0])) [.raise "BadScheme" (.var 0)] []]
class E_p_need_scheme (W : Wd) : Prop where eq : ∀ fuel n ss k, W.ph fuel (n + 1) 4 ss k = run (W.G fuel n) ⟨1, 1, i_p_need_scheme⟩ ss k
theorem u_p_need_scheme {W : Wd} [h : E_p_need_scheme W] {fuel n : Nat} {a0 : Sl} {k : Ds} : W.ph fuel (n + 1) 4 [a0] k = fin (execs (W.G fuel n) i_p_need_scheme [some a0] k) := h.eq fuel n _ k
def i_p_fraction : List IS := [.asg 2 (.blt .gcd [.var 0, .var 1]), .ret (.tup [.bop .FloorDiv (.var 0) (.var 2), .bop .FloorDiv (.var 1) (.var 2)])]
class E_p_fraction (W : Wd) : Prop where eq : ∀ fuel n ss k, W.ph fuel (n + 1) 5 ss k = run (W.G fuel n) ⟨2, 3, i_p_fraction⟩ ss k
theorem u_p_fraction {W : Wd} [h : E_p_fraction W] {fuel n : Nat} {a0 a1 : Sl} {k : Ds} : W.ph fuel (n + 1) 5 [a0, a1] k = fin (execs (W.G fuel n) i_p_fraction [some a0, some a1, none] k) := h.eq fuel n _ k
def i_p_is_scheme : List IS := [.ret (.call 3 [.var 0])]
class E_p_is_scheme (W : Wd) : Prop where eq : ∀ fuel n ss k, W.ph fuel (n + 1) 6 ss k = run (W.G fuel n) ⟨1, 1, i_p_is_scheme⟩ ss k
theorem u_p_is_scheme {W : Wd} [h : E_p_is_scheme W] {fuel n : Nat} {a0 : Sl} {k : Ds} : W.ph fuel (n + 1) 6 [a0] k = fin (execs (W.G fuel n) i_p_is_scheme [some a0] k) := h.eq fuel n _ k
def i_p_bound : List IS := [.ex (.call 4 [.var 0]), .ret (.call 5 [.idx (.var 0) (.con (.int 1)), .bop .Sub (.call 0 [.idx (.var 0) (.con (.int 0))]) (.con (.int 1))])]
class E_p_bound (W : Wd) : Prop where eq : ∀ fuel n ss k, W.ph fuel (n + 1) 7 ss k = run (W.G fuel n) ⟨1, 1, i_p_bound⟩ ss k
theorem u_p_bound {W : Wd} [h : E_p_bound W] {fuel n : Nat} {a0 : Sl} {k : Ds} : W.ph fuel (n + 1) 7 [a0] k = fin (execs (W.G fuel n) i_p_bound [some a0] k) := h.eq fuel n _ k
def i_law_pick_fa54 : List IS := [.ret (.idx (.var 1) (.call 9 [.var 0, .blt .len [.var 1]]))]
class E_law_pick_fa54 (W : Wd) : Prop where eq : ∀ fuel n ss k, W.ph fuel (n + 1) 10 ss k = run (W.G fuel n) ⟨2, 2, i_law_pick_fa54⟩ ss k
theorem u_law_pick_fa54 {W : Wd} [h : E_law_pick_fa54 W] {fuel n : Nat} {a0 a1 : Sl} {k : Ds} : W.ph fuel (n + 1) 10 [a0, a1] k = fin (execs (W.G fuel n) i_law_pick_fa54 [some a0, some a1] k) := h.eq fuel n _ k
def i_law_power : List IS := [.asg 2 (.con (.int 1)), .for_ (.name 3) (.rng [.var 1]) [.asg 2 (.bop .Mult (.var 2) (.var 0))], .ret (.var 2)]
class E_law_power (W : Wd) : Prop where eq : ∀ fuel n ss k, W.ph fuel (n + 1) 11 ss k = run (W.G fuel n) ⟨2, 4, i_law_power⟩ ss k
theorem u_law_power {W : Wd} [h : E_law_power W] {fuel n : Nat} {a0 a1 : Sl} {k : Ds} : W.ph fuel (n + 1) 11 [a0, a1] k = fin (execs (W.G fuel n) i_law_power [some a0, some a1, none, none] k) := h.eq fuel n _ k
def i_law_two : List IS := [.ret (.call 11 [.con (.int 2), .var 0])]
class E_law_two (W : Wd) : Prop where eq : ∀ fuel n ss k, W.ph fuel (n + 1) 12 ss k = run (W.G fuel n) ⟨1, 1, i_law_two⟩ ss k
theorem u_law_two {W : Wd} [h : E_law_two W] {fuel n : Nat} {a0 : Sl} {k : Ds} : W.ph fuel (n + 1) 12 [a0] k = fin (execs (W.G fuel n) i_law_two [some a0] k) := h.eq fuel n _ k
def i_law_is_int_7e02 : List IS := [.ret (.and_ (.isi .int (.var 0)) (.not_ (.isi .bool (.var 0))))]
class E_law_is_int_7e02 (W : Wd) : Prop where eq : ∀ fuel n ss k, W.ph fuel (n + 1) 13 ss k = run (W.G fuel n) ⟨1, 1, i_law_is_int_7e02⟩ ss k
theorem u_law_is_int_7e02 {W : Wd} [h : E_law_is_int_7e02 W] {fuel n : Nat} {a0 : Sl} {k : Ds} : W.ph fuel (n + 1) 13 [a0] k = fin (execs (W.G fuel n) i_law_is_int_7e02 [some a0] k) := h.eq fuel n _ k
def i_law_is_tuple : List IS := [.ret (.and_ (.isi .tuple (.var 0)) (.cmp .Eq (.blt .len [.var 0]) (.var 1)))]
class E_law_is_tuple (W : Wd) : Prop where eq : ∀ fuel n ss k, W.ph fuel (n + 1) 14 ss k = run (W.G fuel n) ⟨2, 2, i_law_is_tuple⟩ ss k
theorem u_law_is_tuple {W : Wd} [h : E_law_is_tuple W] {fuel n : Nat} {a0 a1 : Sl} {k : Ds} : W.ph fuel (n + 1) 14 [a0, a1] k = fin (execs (W.G fuel n) i_law_is_tuple [some a0, some a1] k) := h.eq fuel n _ k
def i_law_is_scheme_8282 : List IS := [.ite (.or_ (.not_ (.call 14 [.var 0, .con (.int 2)])) (.or_ (.not_ (.call 13 [.idx (.var 0) (.con (.int 0))])) (.or_ (.not_ (.call 13 [.idx (.var 0) (.con (.int 1))])) (.not_ (.chain .LtE .LtE (.con (.int 1)) (.idx (.var 0) (.con (.int 0))) (.con (.int 3))))))) [.ret (.con (.bool false))] [], .ret (.and_ (.cmp .LtE (.call 12 [.idx (.var 0) (.con (.int 0))]) (.bop .Mult (.con (.int 2)) (.idx (.var 0) (.con (.int 1))))) (.cmp .LtE (.idx (.var 0) (.con (.int 1))) (.bop .Sub (.call 12 [.idx (.var 0) (.con (.int 0))]) (.con (.int 1)))))]
class E_law_is_scheme_8282 (W : Wd) : Prop where eq : ∀ fuel n ss k, W.ph fuel (n + 1) 15 ss k = run (W.G fuel n) ⟨1, 1, i_law_is_scheme_8282⟩ ss k
theorem u_law_is_scheme_8282 {W : Wd} [h : E_law_is_scheme_8282 W] {fuel n : Nat} {a0 : Sl} {k : Ds} : W.ph fuel (n + 1) 15 [a0] k = fin (execs (W.G fuel n) i_law_is_scheme_8282 [some a0] k) := h.eq fuel n _ k
def i_law_bound : List IS := [.par [(1, false), (2, false)] [.idx (.var 0) (.con (.int 1)), .bop .Sub (.call 12 [.idx (.var 0) (.con (.int 0))]) (.con (.int 1))], .for_ (.name 3) (.seq (.tup [.con (.int 7), .con (.int 5), .con (.int 3), .con (.int 2)])) [.ite (.and_ (.cmp .Eq (.bop .Mod (.blt .int [.var 1]) (.var 3)) (.con (.int 0))) (.cmp .Eq (.bop .Mod (.blt .int [.var 2]) (.var 3)) (.con (.int 0)))) [.par [(1, false), (2, false)] [.bop .FloorDiv (.var 1) (.var 3), .bop .FloorDiv (.var 2) (.var 3)]] []], .ret (.tup [.var 1, .var 2])]
class E_law_bound (W : Wd) : Prop where eq : ∀ fuel n ss k, W.ph fuel (n + 1) 16 ss k = run (W.G fuel n) ⟨1, 4, i_law_bound⟩ ss k
theorem u_law_bound {W : Wd} [h : E_law_bound W] {fuel n : Nat} {a0 : Sl} {k : Ds} : W.ph fuel (n + 1) 16 [a0] k = fin (execs (W.G fuel n) i_law_bound [some a0, none, none, none] k) := h.eq fuel n _ k
def i_law_tried_a214 : List IS := [.asg 1 (.con .none), .try_ [.asg 1 (.tup [.con (.str "returned"), .callv 0 []])] [.h ["BadScheme"] (some 2) [.asg 1 (.tup [.con (.str "BadScheme"), .xat 2 ".thing"])]], .ret (.var 1)]
class E_law_tried_a214 (W : Wd) : Prop where eq : ∀ fuel n ss k, W.ph fuel (n + 1) 17 ss k = run (W.G fuel n) ⟨1, 3, i_law_tried_a214⟩ ss k
theorem u_law_tried_a214 {W : Wd} [h : E_law_tried_a214 W] {fuel n : Nat} {a0 : Sl} {k : Ds} : W.ph fuel (n + 1) 17 [a0] k = fin (execs (W.G fuel n) i_law_tried_a214 [some a0, none, none] k) := h.eq fuel n _ k
def i_law_any_56cc : List IS := [.asg 1 (.call 10 [.var 0, .lst [.con (.int 2), .con (.int 1), .con (.int 3), .con (.int 0), .con (.int 4), .neg (.con (.int 1)), .bop .Pow (.con (.int 10)) (.con (.int 6)), .con (.bool true), .con (.int 5)]]), .asg 2 (.call 10 [.var 0, .lst [.con (.int 2), .con (.int 1), .con (.int 3), .con (.int 4), .con (.int 5), .con (.int 6), .con (.int 7), .con (.int 8), .con (.int 0), .neg (.con (.int 2)), .bop .Pow (.con (.int 10)) (.con (.int 39)), .con (.bool true), .con .none, .con (.int 16), .con (.int 31)]]), .asg 3 (.call 9 [.var 0, .con (.int 6)]), .ite (.cmp .Gt (.var 3) (.con (.int 2))) [.ret (.tup [.var 1, .var 2])] [], .ite (.cmp .Eq (.var 3) (.con (.int 2))) [.ret (.call 10 [.var 0, .lst [.tup [.var 1, .var 2, .con (.int 0)], .tup [.var 1], .lst [.var 1, .var 2], .tup [.tup [.var 1, .var 2]], .tup [.blt .str [.var 1], .var 2], .tup [.var 1, .blt .str [.var 2]], .tup [.var 2, .var 1], .tup [.tup [.var 1], .var 2], .tup [.var 1, .con .none]]])] [], .ret (.call 10 [.var 0, .lst [.con .none, .con (.bool true), .con (.bool false), .con (.int 0), .con (.int 2), .con (.str ""), .con (.str "(2, 2)"), .tup [], .lst [], .dct [] [], .dct [.int 2] [.con (.int 2)], .tup [.tup [], .tup []], .bop .Pow (.con (.int 10)) (.con (.int 39)), .neg (.con (.int 1)), .con (.str "22"), .tup [.con (.int 2), .con (.int 2), .con (.int 2)]]])]
class E_law_any_56cc (W : Wd) : Prop where eq : ∀ fuel n ss k, W.ph fuel (n + 1) 18 ss k = run (W.G fuel n) ⟨1, 4, i_law_any_56cc⟩ ss k
theorem u_law_any_56cc {W : Wd} [h : E_law_any_56cc W] {fuel n : Nat} {a0 : Sl} {k : Ds} : W.ph fuel (n + 1) 18 [a0] k = fin (execs (W.G fuel n) i_law_any_56cc [some a0, none, none, none] k) := h.eq fuel n _ k
def i_lawk00 : List IS := [.asg 1 (.call 8 [.var 0]), .for_ (.name 2) (.rng [.con (.int 14)]) [.asg 4 (.call 18 [.var 1]), .asg 5 (.call 15 [.var 4]), .asg 6 (.ite (.cmp .Eq (.var 2) (.con (.int 0))) (.callk 6 [.var 4] [0]) (.call 6 [.var 4])), .ite (.cmp .NotEq (.blt .repr [.var 6]) (.blt .repr [.var 5])) [.ret (.con (.bool false))] [], .asg 7 (.lamc 17 100380), .ite (.and_ (.cmp .Lt (.var 2) (.con (.int 2))) (.cmp .NotEq (.blt .repr [.lamc 17 100381]) (.blt .repr [.var 7]))) [.ret (.con (.bool false))] [], .ite (.cmp .NotEq (.blt .repr [.var 7]) (.blt .repr [.ite (.var 5) (.tup [.con (.str "returned"), .call 16 [.var 4]]) (.tup [.con (.str "BadScheme"), .var 4])])) [.ret (.con (.bool false))] []], .for_ (.name 3) (.seq (.lst [.tup [.con (.int 1), .con (.int 1)], .tup [.con (.int 2), .con (.int 2)], .tup [.con (.int 2), .con (.int 3)], .tup [.con (.int 3), .con (.int 4)], .tup [.con (.int 3), .con (.int 5)], .tup [.con (.int 3), .con (.int 6)], .tup [.con (.int 3), .con (.int 7)]])) [.ite (.cmp .NotEq (.blt .repr [.tup [.call 6 [.var 3], .call 7 [.var 3]]]) (.blt .repr [.tup [.con (.bool true), .call 16 [.var 3]]])) [.ret (.con (.bool false))] []], .ret (.con (.bool true))]
class E_lawk00 (W : Wd) : Prop where eq : ∀ fuel n ss k, W.ph fuel (n + 1) 19 ss k = run (W.G fuel n) ⟨1, 8, i_lawk00⟩ ss k
theorem u_lawk00 {W : Wd} [h : E_lawk00 W] {fuel n : Nat} {a0 : Sl} {k : Ds} : W.ph fuel (n + 1) 19 [a0] k = fin (execs (W.G fuel n) i_lawk00 [some a0, none, none, none, none, none, none, none] k) := h.eq fuel n _ k
def i_p_is_from : List IS := [.ret (.and_ (.call 1 [.var 0]) (.cmp .GtE (.var 0) (.var 1)))]
class E_p_is_from (W : Wd) : Prop where eq : ∀ fuel n ss k, W.ph fuel (n + 1) 20 ss k = run (W.G fuel n) ⟨2, 2, i_p_is_from⟩ ss k
def i_p_need_number : List IS := [.ite (.not_ (.call 20 [.var 0, .var 1])) [.raise "BadNumber" (.var 0)] []]
class E_p_need_number (W : Wd) : Prop where eq : ∀ fuel n ss k, W.ph fuel (n + 1) 21 ss k = run (W.G fuel n) ⟨2, 2, i_p_need_number⟩ ss k
def i_p_is_digit : List IS := [.ret (.and_ (.call 1 [.var 1]) (.chain .LtE .LtE (.bop .Sub (.con (.int 0)) (.idx (.var 0) (.con (.int 1)))) (.var 1) (.idx (.var 0) (.con (.int 1)))))]
class E_p_is_digit (W : Wd) : Prop where eq : ∀ fuel n ss k, W.ph fuel (n + 1) 22 ss k = run (W.G fuel n) ⟨2, 2, i_p_is_digit⟩ ss k
def i_p_is_string : List IS := [.ret (.and_ (.isi .tuple (.var 1)) (.blt .all [.comp (.call 22 [.var 0, .var 2]) (.name 2) (.seq (.var 1)) [] [2]]))]
class E_p_is_string (W : Wd) : Prop where eq : ∀ fuel n ss k, W.ph fuel (n + 1) 23 ss k = run (W.G fuel n) ⟨2, 3, i_p_is_string⟩ ss k
def i_p_value_of : List IS := [.asg 2 (.con (.int 0)), .for_ (.name 3) (.seq (.var 1)) [.asg 2 (.bop .Add (.bop .Mult (.var 2) (.call 0 [.idx (.var 0) (.con (.int 0))])) (.var 3))], .ret (.var 2)]
class E_p_value_of (W : Wd) : Prop where eq : ∀ fuel n ss k, W.ph fuel (n + 1) 24 ss k = run (W.G fuel n) ⟨2, 4, i_p_value_of⟩ ss k
def i_p_value : List IS := [.ex (.call 4 [.var 0]), .ite (.not_ (.call 23 [.var 0, .var 1])) [.raise "BadDigits" (.var 1)] [], .ret (.call 24 [.var 0, .var 1])]
class E_p_value (W : Wd) : Prop where eq : ∀ fuel n ss k, W.ph fuel (n + 1) 25 ss k = run (W.G fuel n) ⟨2, 2, i_p_value⟩ ss k
def i_p_greatest_of : List IS := [.asg 2 (.call 0 [.idx (.var 0) (.con (.int 0))]), .ret (.bop .FloorDiv (.bop .Mult (.idx (.var 0) (.con (.int 1))) (.bop .Sub (.call 0 [.bop .Mult (.idx (.var 0) (.con (.int 0))) (.var 1)]) (.con (.int 1)))) (.bop .Sub (.var 2) (.con (.int 1))))]
class E_p_greatest_of (W : Wd) : Prop where eq : ∀ fuel n ss k, W.ph fuel (n + 1) 26 ss k = run (W.G fuel n) ⟨2, 3, i_p_greatest_of⟩ ss k
def i_p_greatest : List IS := [.ex (.call 4 [.var 0]), .ex (.call 21 [.var 1, .con (.int 0)]), .ret (.call 26 [.var 0, .var 1])]
class E_p_greatest (W : Wd) : Prop where eq : ∀ fuel n ss k, W.ph fuel (n + 1) 27 ss k = run (W.G fuel n) ⟨2, 2, i_p_greatest⟩ ss k
def i_law_scheme_f945 : List IS := [.ret (.call 10 [.var 0, .lst [.tup [.con (.int 2), .con (.int 2)], .tup [.con (.int 1), .con (.int 1)], .tup [.con (.int 2), .con (.int 3)], .tup [.con (.int 3), .con (.int 7)], .tup [.con (.int 3), .con (.int 4)], .tup [.con (.int 3), .con (.int 5)], .tup [.con (.int 3), .con (.int 6)]]])]
class E_law_scheme_f945 (W : Wd) : Prop where eq : ∀ fuel n ss k, W.ph fuel (n + 1) 28 ss k = run (W.G fuel n) ⟨1, 1, i_law_scheme_f945⟩ ss k
def i_law_value : List IS := [.asg 2 (.con (.int 0)), .for_ (.tup [.name 3, .name 4]) (.enum (.rev (.var 1))) [.asg 2 (.bop .Add (.var 2) (.bop .Mult (.var 4) (.call 12 [.bop .Mult (.idx (.var 0) (.con (.int 0))) (.var 3)])))], .ret (.var 2)]
class E_law_value (W : Wd) : Prop where eq : ∀ fuel n ss k, W.ph fuel (n + 1) 29 ss k = run (W.G fuel n) ⟨2, 5, i_law_value⟩ ss k
def i_law_most : List IS := [.ret (.call 29 [.var 0, .bop .Mult (.tup [.idx (.var 0) (.con (.int 1))]) (.var 1)])]
class E_law_most (W : Wd) : Prop where eq : ∀ fuel n ss k, W.ph fuel (n + 1) 30 ss k = run (W.G fuel n) ⟨2, 2, i_law_most⟩ ss k
def i_law_string : List IS := [.par [(3, false), (4, false)] [.call 9 [.var 0, .con (.int 3)], .idx (.var 1) (.con (.int 1))], .ite (.cmp .Eq (.var 3) (.con (.int 0))) [.ret (.blt .tuple [.comp (.call 10 [.var 0, .lst [.var 4, .neg (.var 4), .con (.int 0), .var 4]]) (.name 5) (.rng [.var 2]) [] [5]])] [], .ret (.blt .tuple [.comp (.bop .Sub (.call 9 [.var 0, .bop .Add (.bop .Mult (.con (.int 2)) (.var 4)) (.con (.int 1))]) (.var 4)) (.name 5) (.rng [.var 2]) [] [5]])]
class E_law_string (W : Wd) : Prop where eq : ∀ fuel n ss k, W.ph fuel (n + 1) 31 ss k = run (W.G fuel n) ⟨3, 6, i_law_string⟩ ss k
def i_p_need_integer : List IS := [.ite (.not_ (.call 1 [.var 0])) [.raise "BadNumber" (.var 0)] []]
class E_p_need_integer (W : Wd) : Prop where eq : ∀ fuel n ss k, W.ph fuel (n + 1) 33 ss k = run (W.G fuel n) ⟨1, 1, i_p_need_integer⟩ ss k
def i_law_is_string_cf27 : List IS := [.ite (.not_ (.isi .tuple (.var 1))) [.ret (.con (.bool false))] [], .ret (.cmp .Eq (.comp (.var 2) (.name 2) (.seq (.var 1)) [.or_ (.not_ (.call 13 [.var 2])) (.not_ (.chain .LtE .LtE (.neg (.idx (.var 0) (.con (.int 1)))) (.var 2) (.idx (.var 0) (.con (.int 1)))))] [2]) (.lst []))]
class E_law_is_string_cf27 (W : Wd) : Prop where eq : ∀ fuel n ss k, W.ph fuel (n + 1) 42 ss k = run (W.G fuel n) ⟨2, 3, i_law_is_string_cf27⟩ ss k
def i_p_append_to : List IS := [.asgT (.tup [.name 3, .name 4]) (.var 1), .asg 5 (.call 0 [.idx (.var 0) (.con (.int 0))]), .asg 6 (.ite (.cmp .GtE (.var 2) (.con (.int 0))) (.bop .Add (.var 3) (.tup [.var 2])) (.bop .Add (.var 4) (.tup [.bop .Add (.var 5) (.var 2)]))), .asg 7 (.ite (.cmp .Gt (.var 2) (.con (.int 0))) (.bop .Add (.var 3) (.tup [.bop .Sub (.var 2) (.con (.int 1))])) (.bop .Add (.var 4) (.tup [.bop .Add (.bop .Sub (.var 5) (.con (.int 1))) (.var 2)]))), .ret (.tup [.var 6, .var 7])]
class E_p_append_to (W : Wd) : Prop where eq : ∀ fuel n ss k, W.ph fuel (n + 1) 50 ss k = run (W.G fuel n) ⟨3, 8, i_p_append_to⟩ ss k
def i_p_registers : List IS := [.ex (.call 4 [.var 0]), .ite (.not_ (.call 23 [.var 0, .var 1])) [.raise "BadDigits" (.var 1)] [], .asg 2 (.tup [.tup [], .tup []]), .for_ (.name 3) (.seq (.var 1)) [.asg 2 (.call 50 [.var 0, .var 2, .var 3])], .ret (.var 2)]
class E_p_registers (W : Wd) : Prop where eq : ∀ fuel n ss k, W.ph fuel (n + 1) 51 ss k = run (W.G fuel n) ⟨2, 4, i_p_registers⟩ ss k
def i_p_is_ordinary : List IS := [.ite (.not_ (.isi .tuple (.var 1))) [.ret (.con (.bool false))] [], .ret (.blt .all [.comp (.and_ (.call 1 [.var 2]) (.chain .LtE .Lt (.con (.int 0)) (.var 2) (.call 0 [.idx (.var 0) (.con (.int 0))]))) (.name 2) (.seq (.var 1)) [] [2]])]
class E_p_is_ordinary (W : Wd) : Prop where eq : ∀ fuel n ss k, W.ph fuel (n + 1) 52 ss k = run (W.G fuel n) ⟨2, 3, i_p_is_ordinary⟩ ss k
def i_p_is_pair : List IS := [.ite (.or_ (.not_ (.call 2 [.var 1, .con (.int 2)])) (.or_ (.not_ (.call 52 [.var 0, .idx (.var 1) (.con (.int 0))])) (.not_ (.call 52 [.var 0, .idx (.var 1) (.con (.int 1))])))) [.ret (.con (.bool false))] [], .ret (.cmp .Eq (.blt .len [.idx (.var 1) (.con (.int 0))]) (.blt .len [.idx (.var 1) (.con (.int 1))]))]
class E_p_is_pair (W : Wd) : Prop where eq : ∀ fuel n ss k, W.ph fuel (n + 1) 53 ss k = run (W.G fuel n) ⟨2, 2, i_p_is_pair⟩ ss k
def i_p_appended : List IS := [.ex (.call 4 [.var 0]), .ite (.not_ (.call 53 [.var 0, .var 1])) [.raise "BadDigits" (.var 1)] [], .ite (.not_ (.call 22 [.var 0, .var 2])) [.raise "BadDigits" (.var 2)] [], .ret (.call 50 [.var 0, .var 1, .var 2])]
class E_p_appended (W : Wd) : Prop where eq : ∀ fuel n ss k, W.ph fuel (n + 1) 54 ss k = run (W.G fuel n) ⟨3, 3, i_p_appended⟩ ss k
def i_law_places : List IS := [.own 3 (.lst []), .for_ (.name 4) (.rng [.var 2]) [.app 3 (.bop .Mod (.blt .int [.var 1]) (.var 0)), .asg 1 (.bop .FloorDiv (.var 1) (.var 0))], .ret (.blt .tuple [.revl (.var 3)])]
class E_law_places (W : Wd) : Prop where eq : ∀ fuel n ss k, W.ph fuel (n + 1) 55 ss k = run (W.G fuel n) ⟨3, 5, i_law_places⟩ ss k
def i_p_is_word_of : List IS := [.ret (.and_ (.isi .str (.var 0)) (.cmp .In (.var 0) (.var 1)))]
class E_p_is_word_of (W : Wd) : Prop where eq : ∀ fuel n ss k, W.ph fuel (n + 1) 65 ss k = run (W.G fuel n) ⟨2, 2, i_p_is_word_of⟩ ss k
def i_p_is_look_value : List IS := [.ret (.and_ (.call 2 [.var 0, .con (.int 3)]) (.and_ (.call 20 [.idx (.var 0) (.con (.int 0)), .con (.int 0)]) (.and_ (.call 20 [.idx (.var 0) (.con (.int 1)), .con (.int 0)]) (.call 65 [.idx (.var 0) (.con (.int 2)), .glob "KINDS"]))))]
class E_p_is_look_value (W : Wd) : Prop where eq : ∀ fuel n ss k, W.ph fuel (n + 1) 66 ss k = run (W.G fuel n) ⟨1, 1, i_p_is_look_value⟩ ss k
def i_p_is_row : List IS := [.ret (.and_ (.call 2 [.var 1, .con (.int 2)]) (.and_ (.call 1 [.idx (.var 1) (.con (.int 0))]) (.and_ (.call 23 [.var 0, .idx (.var 1) (.con (.int 1))]) (.cmp .NotEq (.idx (.var 1) (.con (.int 1))) (.tup [])))))]
class E_p_is_row (W : Wd) : Prop where eq : ∀ fuel n ss k, W.ph fuel (n + 1) 67 ss k = run (W.G fuel n) ⟨2, 2, i_p_is_row⟩ ss k
def i_p_is_machine_value : List IS := [.ite (.or_ (.not_ (.call 2 [.var 0, .con (.int 3)])) (.or_ (.not_ (.call 3 [.idx (.var 0) (.con (.int 0))])) (.not_ (.call 66 [.idx (.var 0) (.con (.int 1))])))) [.ret (.con (.bool false))] [], .asgT (.tup [.name 1, .name 2, .name 3]) (.var 0), .ite (.or_ (.not_ (.isi .tuple (.var 3))) (.or_ (.cmp .Gt (.idx (.var 2) (.con (.int 1))) (.con (.int 60))) (.cmp .NotEq (.blt .len [.var 3]) (.call 0 [.idx (.var 2) (.con (.int 1))])))) [.ret (.con (.bool false))] [], .ret (.blt .all [.comp (.call 67 [.var 1, .var 4]) (.name 4) (.seq (.var 3)) [] [4]])]
class E_p_is_machine_value (W : Wd) : Prop where eq : ∀ fuel n ss k, W.ph fuel (n + 1) 68 ss k = run (W.G fuel n) ⟨1, 5, i_p_is_machine_value⟩ ss k
def i_law_look_e7e2 : List IS := [.dicB 3 [(.tup [.tup [.num 1, .num 1], .text "one"], .list [.tuple [.int 0, .int 0], .tuple [.int 1, .int 1], .tuple [.int 0, .int 2], .tuple [.int 2, .int 0]]), (.tup [.tup [.num 1, .num 1], .text "pair"], .list [.tuple [.int 0, .int 0], .tuple [.int 0, .int 1], .tuple [.int 1, .int 0], .tuple [.int 1, .int 1]]), (.tup [.tup [.num 2, .num 3], .text "one"], .list [.tuple [.int 0, .int 1], .tuple [.int 1, .int 1], .tuple [.int 0, .int 2]]), (.tup [.tup [.num 2, .num 3], .text "pair"], .list [.tuple [.int 1, .int 2]]), (.tup [.tup [.num 2, .num 2], .text "one"], .list [.tuple [.int 2, .int 3]])], .asg 4 (.bop .Add (.bop .Mult (.dget 3 (.tup [.var 1, .var 2]) (.lst [])) (.con (.int 3))) (.lst [.tup [.call 9 [.var 0, .con (.int 2)], .call 9 [.var 0, .con (.int 2)]]])), .ret (.bop .Add (.call 10 [.var 0, .var 4]) (.tup [.var 2]))]
class E_law_look_e7e2 (W : Wd) : Prop where eq : ∀ fuel n ss k, W.ph fuel (n + 1) 73 ss k = run (W.G fuel n) ⟨3, 5, i_law_look_e7e2⟩ ss k
def i_law_digit_db1f : List IS := [.par [(5, false), (6, false), (7, false)] [.call 12 [.idx (.var 1) (.con (.int 0))], .idx (.var 1) (.con (.int 1)), .bop .Add (.call 12 [.idx (.var 2) (.con (.int 1))]) (.var 3)], .par [(8, false), (9, false), (10, false)] [.bop .Add (.var 4) (.ite (.cmp .Eq (.idx (.var 2) (.con (.int 2))) (.con (.str "one"))) (.con (.int 1)) (.con (.int 2))), .call 12 [.idx (.var 2) (.con (.int 0))], .call 12 [.idx (.var 2) (.con (.int 1))]], .asg 11 (.bop .FloorDiv (.bop .Add (.bop .Mult (.bop .Mult (.con (.int 2)) (.bop .Add (.var 4) (.var 8))) (.var 10)) (.bop .Mult (.var 9) (.bop .Add (.bop .Mult (.con (.int 2)) (.var 7)) (.con (.int 1))))) (.bop .Mult (.bop .Mult (.con (.int 2)) (.var 9)) (.bop .Add (.bop .Mult (.con (.int 2)) (.var 7)) (.con (.int 1))))), .own 12 (.lst []), .for_ (.name 13) (.seq (.tup [.bop .Sub (.var 11) (.con (.int 1)), .var 11, .bop .Add (.var 11) (.con (.int 1))])) [.par [(14, false), (15, false)] [.bop .Sub (.bop .Mult (.var 13) (.bop .Sub (.var 5) (.con (.int 1)))) (.var 6), .bop .Add (.bop .Mult (.var 13) (.bop .Sub (.var 5) (.con (.int 1)))) (.var 6)], .asg 16 (.or_ (.cmp .Eq (.var 13) (.neg (.var 6))) (.cmp .LtE (.bop .Mult (.bop .Mult (.var 14) (.bop .Add (.var 7) (.blt .int [.cmp .GtE (.var 14) (.con (.int 0))]))) (.var 9)) (.bop .Mult (.bop .Mult (.var 4) (.bop .Sub (.var 5) (.con (.int 1)))) (.var 10)))), .asg 17 (.or_ (.cmp .Eq (.var 13) (.var 6)) (.cmp .LtE (.bop .Mult (.bop .Mult (.var 8) (.bop .Sub (.var 5) (.con (.int 1)))) (.var 10)) (.bop .Mult (.bop .Mult (.var 15) (.bop .Add (.var 7) (.blt .int [.cmp .Lt (.var 15) (.con (.int 0))]))) (.var 9)))), .ite (.and_ (.chain .LtE .LtE (.neg (.var 6)) (.var 13) (.var 6)) (.and_ (.var 16) (.var 17))) [.app 12 (.var 13)] []], .frz 12, .ret (.ite (.cmp .NotEq (.var 12) (.lst [])) (.call 10 [.var 0, .var 12]) (.blt .max [.neg (.var 6), .blt .min [.var 6, .var 11]]))]
class E_law_digit_db1f (W : Wd) : Prop where eq : ∀ fuel n ss k, W.ph fuel (n + 1) 74 ss k = run (W.G fuel n) ⟨5, 18, i_law_digit_db1f⟩ ss k
def i_law_machine_36f1 : List IS := [.par [(3, true), (4, false)] [.lst [], .call 12 [.idx (.var 1) (.con (.int 0))]], .for_ (.name 5) (.rng [.call 12 [.idx (.var 2) (.con (.int 1))]]) [.asg 6 (.bop .Add (.bop .FloorDiv (.bop .Mult (.bop .Mult (.bop .Mult (.var 4) (.idx (.var 1) (.con (.int 1)))) (.bop .Add (.bop .Add (.call 12 [.idx (.var 2) (.con (.int 1))]) (.var 5)) (.con (.int 1)))) (.call 12 [.idx (.var 2) (.con (.int 0))])) (.bop .Mult (.bop .Sub (.var 4) (.con (.int 1))) (.call 12 [.idx (.var 2) (.con (.int 1))]))) (.con (.int 1))), .app 3 (.tup [.bop .Sub (.neg (.var 6)) (.con (.int 2)), .blt .tuple [.comp (.call 74 [.var 0, .var 1, .var 2, .var 5, .var 7]) (.name 7) (.rng [.bop .Sub (.neg (.var 6)) (.con (.int 2)), .bop .Add (.var 6) (.con (.int 1))]) [] [7]]])], .ret (.tup [.var 1, .var 2, .blt .tuple [.var 3]])]
class E_law_machine_36f1 (W : Wd) : Prop where eq : ∀ fuel n ss k, W.ph fuel (n + 1) 75 ss k = run (W.G fuel n) ⟨3, 8, i_law_machine_36f1⟩ ss k
def i_law_spoilt_5e61 : List IS := [.asgT (.tup [.name 2, .name 3, .name 4]) (.var 1), .asg 5 (.call 9 [.var 0, .blt .len [.var 4]]), .asgT (.tup [.name 6, .name 7]) (.idx (.var 4) (.var 5)), .par [(7, true), (8, false)] [.blt .list [.var 7], .call 9 [.var 0, .con (.int 4)]], .for_ (.name 9) (.rng [.bop .Add (.con (.int 1)) (.call 9 [.var 0, .con (.int 6)])]) [.asg 11 (.call 9 [.var 0, .blt .len [.var 7]]), .put 7 (.var 11) (.bop .Sub (.call 9 [.var 0, .bop .Add (.bop .Mult (.con (.int 2)) (.idx (.var 2) (.con (.int 1)))) (.con (.int 1))]) (.idx (.var 2) (.con (.int 1))))], .ite (.cmp .Eq (.var 8) (.con (.int 0))) [.asg 12 (.call 9 [.var 0, .blt .len [.var 7]]), .par [(7, false), (6, false)] [.sl (.var 7) (some (.var 12)) none, .bop .Add (.var 6) (.var 12)]] [], .frz 7, .asg 10 (.tup [.bop .Add (.var 6) (.ite (.cmp .Eq (.var 8) (.con (.int 1))) (.bop .Sub (.call 9 [.var 0, .con (.int 5)]) (.con (.int 2))) (.con (.int 0))), .blt .tuple [.ite (.cmp .Eq (.var 8) (.con (.int 2))) (.sl (.var 7) none (some (.bop .Add (.con (.int 1)) (.call 9 [.var 0, .blt .len [.var 7]])))) (.var 7)]]), .ret (.tup [.var 2, .var 3, .bop .Add (.bop .Add (.sl (.var 4) none (some (.var 5))) (.tup [.var 10])) (.sl (.var 4) (some (.bop .Add (.var 5) (.con (.int 1)))) none)])]
class E_law_spoilt_5e61 (W : Wd) : Prop where eq : ∀ fuel n ss k, W.ph fuel (n + 1) 76 ss k = run (W.G fuel n) ⟨2, 13, i_law_spoilt_5e61⟩ ss k
def i_law_any_machine_eb3c : List IS := [.asg 2 (.call 28 [.var 0]), .asg 3 (.call 73 [.var 0, .var 2, .var 1]), .asg 4 (.call 75 [.var 0, .var 2, .var 3]), .ret (.ite (.cmp .Gt (.call 9 [.var 0, .con (.int 3)]) (.con (.int 0))) (.var 4) (.call 76 [.var 0, .var 4]))]
class E_law_any_machine_eb3c (W : Wd) : Prop where eq : ∀ fuel n ss k, W.ph fuel (n + 1) 77 ss k = run (W.G fuel n) ⟨2, 5, i_law_any_machine_eb3c⟩ ss k
def i_p_is_divisor : List IS := [.ret (.and_ (.call 20 [.var 1, .con (.int 1)]) (.and_ (.call 1 [.var 0]) (.and_ (.cmp .Gt (.var 0) (.con (.int 0))) (.cmp .Eq (.blt .bitlen [.var 0]) (.bop .Add (.var 1) (.con (.int 1)))))))]
class E_p_is_divisor (W : Wd) : Prop where eq : ∀ fuel n ss k, W.ph fuel (n + 1) 83 ss k = run (W.G fuel n) ⟨2, 2, i_p_is_divisor⟩ ss k
def i_p_is_bounded : List IS := [.ret (.cmp .LtE (.bop .Mult (.blt .abs [.var 1]) (.bop .Sub (.call 0 [.idx (.var 0) (.con (.int 0))]) (.con (.int 1)))) (.bop .Mult (.idx (.var 0) (.con (.int 1))) (.var 2)))]
class E_p_is_bounded (W : Wd) : Prop where eq : ∀ fuel n ss k, W.ph fuel (n + 1) 84 ss k = run (W.G fuel n) ⟨3, 3, i_p_is_bounded⟩ ss k
def i_p_is_remainder : List IS := [.ite (.cmp .Eq (.var 0) (.con (.str "one"))) [.ret (.call 1 [.var 1])] [], .ret (.and_ (.call 2 [.var 1, .con (.int 2)]) (.and_ (.call 1 [.idx (.var 1) (.con (.int 0))]) (.call 1 [.idx (.var 1) (.con (.int 1))])))]
class E_p_is_remainder (W : Wd) : Prop where eq : ∀ fuel n ss k, W.ph fuel (n + 1) 85 ss k = run (W.G fuel n) ⟨2, 2, i_p_is_remainder⟩ ss k
def i_p_worth_of : List IS := [.ret (.ite (.isi .tuple (.var 0)) (.blt .sum [.var 0]) (.var 0))]
class E_p_worth_of (W : Wd) : Prop where eq : ∀ fuel n ss k, W.ph fuel (n + 1) 86 ss k = run (W.G fuel n) ⟨1, 1, i_p_worth_of⟩ ss k
def i_p_are_operands : List IS := [.ite (.or_ (.not_ (.call 2 [.var 2, .con (.int 3)])) (.or_ (.not_ (.call 85 [.var 1, .idx (.var 2) (.con (.int 0))])) (.not_ (.call 83 [.idx (.var 2) (.con (.int 1)), .idx (.var 2) (.con (.int 2))])))) [.ret (.con (.bool false))] [], .ret (.call 84 [.var 0, .call 86 [.idx (.var 2) (.con (.int 0))], .idx (.var 2) (.con (.int 1))])]
class E_p_are_operands (W : Wd) : Prop where eq : ∀ fuel n ss k, W.ph fuel (n + 1) 87 ss k = run (W.G fuel n) ⟨3, 3, i_p_are_operands⟩ ss k
def i_p_is_operands : List IS := [.ex (.call 4 [.var 0]), .ite (.not_ (.call 65 [.var 1, .glob "KINDS"])) [.raise "BadNumber" (.var 1)] [], .ret (.call 87 [.var 0, .var 1, .var 2])]
class E_p_is_operands (W : Wd) : Prop where eq : ∀ fuel n ss k, W.ph fuel (n + 1) 88 ss k = run (W.G fuel n) ⟨3, 3, i_p_is_operands⟩ ss k
def i_law_great_469f : List IS := [.par [(2, false), (3, false)] [.con (.int 0), .var 1], .for_ (.name 4) (.rng [.con (.int 8)]) [.ite (.cmp .Gt (.var 3) (.con (.int 0))) [.par [(2, false), (3, false)] [.bop .Add (.bop .Mult (.var 2) (.con (.int 1000003))) (.call 9 [.var 0, .con (.int 1000003)]), .bop .FloorDiv (.var 3) (.con (.int 1000003))]] []], .ret (.bop .Mod (.blt .int [.var 2]) (.var 1))]
class E_law_great_469f (W : Wd) : Prop where eq : ∀ fuel n ss k, W.ph fuel (n + 1) 89 ss k = run (W.G fuel n) ⟨2, 5, i_law_great_469f⟩ ss k
def i_law_is_remainder : List IS := [.ite (.cmp .Eq (.var 0) (.con (.str "one"))) [.ret (.call 13 [.var 1])] [], .ret (.and_ (.call 14 [.var 1, .con (.int 2)]) (.and_ (.call 13 [.idx (.var 1) (.con (.int 0))]) (.call 13 [.idx (.var 1) (.con (.int 1))])))]
class E_law_is_remainder (W : Wd) : Prop where eq : ∀ fuel n ss k, W.ph fuel (n + 1) 91 ss k = run (W.G fuel n) ⟨2, 2, i_law_is_remainder⟩ ss k
def i_law_divisor : List IS := [.par [(2, false), (3, false)] [.call 9 [.var 0, .con (.int 4)], .call 12 [.var 1]], .ite (.cmp .Eq (.var 2) (.con (.int 0))) [.ret (.bop .Add (.var 3) (.call 10 [.var 0, .lst [.con (.int 0), .bop .Sub (.var 3) (.con (.int 1)), .con (.int 0), .blt .min [.con (.int 1), .bop .Sub (.var 3) (.con (.int 1))]]]))] [], .ite (.cmp .Eq (.var 2) (.con (.int 1))) [.ret (.blt .min [.blt .max [.var 3, .bop .Sub (.bop .Add (.var 3) (.bop .FloorDiv (.bop .Mult (.call 9 [.var 0, .con (.int 16)]) (.var 3)) (.con (.int 16)))) (.call 9 [.var 0, .con (.int 2)])], .bop .Sub (.bop .Mult (.con (.int 2)) (.var 3)) (.con (.int 1))])] [], .ret (.bop .Add (.var 3) (.call 89 [.var 0, .var 3]))]
class E_law_divisor (W : Wd) : Prop where eq : ∀ fuel n ss k, W.ph fuel (n + 1) 93 ss k = run (W.G fuel n) ⟨2, 4, i_law_divisor⟩ ss k
def i_law_dividend_7536 : List IS := [.par [(3, false), (4, false)] [.call 12 [.idx (.var 1) (.con (.int 0))], .call 9 [.var 0, .con (.int 4)]], .asg 5 (.bop .FloorDiv (.bop .Mult (.idx (.var 1) (.con (.int 1))) (.var 2)) (.bop .Sub (.var 3) (.con (.int 1)))), .ite (.cmp .Eq (.var 4) (.con (.int 0))) [.ret (.call 10 [.var 0, .lst [.var 5, .neg (.var 5), .con (.int 0), .blt .min [.var 5, .con (.int 1)], .neg (.blt .min [.var 5, .con (.int 1)])]])] [], .ite (.cmp .Eq (.var 4) (.con (.int 1))) [.asg 6 (.bop .Sub (.bop .Add (.bop .FloorDiv (.bop .Mult (.bop .Sub (.call 9 [.var 0, .bop .Add (.bop .Mult (.con (.int 4)) (.idx (.var 1) (.con (.int 1)))) (.con (.int 1))]) (.bop .Mult (.con (.int 2)) (.idx (.var 1) (.con (.int 1))))) (.var 2)) (.bop .Mult (.con (.int 2)) (.var 3))) (.call 9 [.var 0, .con (.int 3)])) (.con (.int 1))), .ret (.blt .max [.neg (.var 5), .blt .min [.var 5, .var 6]])] [], .ret (.bop .Sub (.call 89 [.var 0, .bop .Add (.bop .Mult (.con (.int 2)) (.var 5)) (.con (.int 1))]) (.var 5))]
class E_law_dividend_7536 (W : Wd) : Prop where eq : ∀ fuel n ss k, W.ph fuel (n + 1) 94 ss k = run (W.G fuel n) ⟨3, 7, i_law_dividend_7536⟩ ss k
def i_law_operands_80b3 : List IS := [.asg 4 (.call 93 [.var 0, .var 3]), .asg 5 (.call 94 [.var 0, .var 1, .var 4]), .ite (.cmp .Eq (.var 2) (.con (.str "one"))) [.ret (.tup [.var 5, .var 4, .var 3])] [], .asg 6 (.call 10 [.var 0, .lst [.con (.int 0), .var 5, .call 89 [.var 0, .bop .Mult (.con (.int 4)) (.var 4)], .neg (.call 89 [.var 0, .bop .Mult (.con (.int 4)) (.var 4)]), .neg (.call 89 [.var 0, .bop .Pow (.con (.int 2)) (.con (.int 40))])]]), .ret (.tup [.tup [.bop .Sub (.var 5) (.var 6), .var 6], .var 4, .var 3])]
class E_law_operands_80b3 (W : Wd) : Prop where eq : ∀ fuel n ss k, W.ph fuel (n + 1) 95 ss k = run (W.G fuel n) ⟨4, 7, i_law_operands_80b3⟩ ss k
def i_law_width_b7cc : List IS := [.ret (.call 10 [.var 0, .lst [.con (.int 3), .con (.int 1), .con (.int 2), .con (.int 8), .con (.int 40), .con (.int 5), .bop .Add (.con (.int 1)) (.call 9 [.var 0, .con (.int 40)])]])]
class E_law_width_b7cc (W : Wd) : Prop where eq : ∀ fuel n ss k, W.ph fuel (n + 1) 96 ss k = run (W.G fuel n) ⟨1, 1, i_law_width_b7cc⟩ ss k
def i_p_need_machine : List IS := [.ite (.not_ (.call 68 [.var 0])) [.raise "BadMachine" (.var 0)] []]
class E_p_need_machine (W : Wd) : Prop where eq : ∀ fuel n ss k, W.ph fuel (n + 1) 100 ss k = run (W.G fuel n) ⟨1, 1, i_p_need_machine⟩ ss k
def i_p_look_at : List IS := [.ret (.bop .FloorDiv (.bop .Mult (.bop .Mult (.var 0) (.var 1)) (.call 0 [.var 3])) (.call 0 [.var 2]))]
class E_p_look_at (W : Wd) : Prop where eq : ∀ fuel n ss k, W.ph fuel (n + 1) 101 ss k = run (W.G fuel n) ⟨4, 4, i_p_look_at⟩ ss k
def i_p_cell_at : List IS := [.asgT (.tup [.tup [.name 4, .name 5], .tup [.name 6, .name 7, .name 8], .name 9]) (.var 0), .asg 10 (.bop .FloorDiv (.bop .Mult (.bop .Sub (.var 2) (.call 0 [.var 3])) (.call 0 [.var 7])) (.call 0 [.var 3])), .asg 11 (.ite (.cmp .Eq (.var 8) (.con (.str "pair"))) (.var 1) (.tup [.var 1])), .ret (.tup [.var 10, .blt .sum [.comp (.call 101 [.var 12, .call 0 [.var 4], .var 3, .var 6]) (.name 12) (.seq (.var 11)) [] [12]]])]
class E_p_cell_at (W : Wd) : Prop where eq : ∀ fuel n ss k, W.ph fuel (n + 1) 102 ss k = run (W.G fuel n) ⟨4, 13, i_p_cell_at⟩ ss k
def i_p_digit_at : List IS := [.asgT (.tup [.name 2, .name 3]) (.idx (.idx (.var 0) (.con (.int 2))) (.idx (.var 1) (.con (.int 0)))), .asg 4 (.bop .Sub (.idx (.var 1) (.con (.int 1))) (.var 2)), .ret (.ite (.chain .LtE .Lt (.con (.int 0)) (.var 4) (.blt .len [.var 3])) (.idx (.var 3) (.var 4)) (.con .none))]
class E_p_digit_at (W : Wd) : Prop where eq : ∀ fuel n ss k, W.ph fuel (n + 1) 103 ss k = run (W.G fuel n) ⟨2, 5, i_p_digit_at⟩ ss k
def i_p_need_state : List IS := [.ex (.call 100 [.var 0]), .ite (.or_ (.not_ (.call 85 [.idx (.idx (.var 0) (.con (.int 1))) (.con (.int 2)), .var 1])) (.not_ (.call 83 [.var 2, .var 3]))) [.raise "BadOperands" (.tup [.var 1, .var 2, .var 3])] []]
class E_p_need_state (W : Wd) : Prop where eq : ∀ fuel n ss k, W.ph fuel (n + 1) 104 ss k = run (W.G fuel n) ⟨4, 4, i_p_need_state⟩ ss k
def i_p_estimate : List IS := [.ex (.call 104 [.var 0, .var 1, .var 2, .var 3]), .ret (.call 102 [.var 0, .var 1, .var 2, .var 3])]
class E_p_estimate (W : Wd) : Prop where eq : ∀ fuel n ss k, W.ph fuel (n + 1) 105 ss k = run (W.G fuel n) ⟨4, 4, i_p_estimate⟩ ss k
def i_p_selected : List IS := [.ex (.call 104 [.var 0, .var 1, .var 2, .var 3]), .ret (.call 103 [.var 0, .call 102 [.var 0, .var 1, .var 2, .var 3]])]
class E_p_selected (W : Wd) : Prop where eq : ∀ fuel n ss k, W.ph fuel (n + 1) 106 ss k = run (W.G fuel n) ⟨4, 4, i_p_selected⟩ ss k
def i_law_estimate_ed42 : List IS := [.asgT (.tup [.tup [.name 4, .name 5], .tup [.name 6, .name 7, .name 8], .name 9]) (.var 0), .asg 10 (.ite (.cmp .Eq (.var 8) (.con (.str "one"))) (.tup [.var 1]) (.var 1)), .ret (.tup [.bop .FloorDiv (.bop .Mult (.bop .Sub (.var 2) (.call 12 [.var 3])) (.call 12 [.var 7])) (.call 12 [.var 3]), .blt .sum [.comp (.bop .FloorDiv (.bop .Mult (.var 11) (.call 12 [.bop .Add (.var 4) (.var 6)])) (.call 12 [.var 3])) (.name 11) (.seq (.var 10)) [] [11]]])]
class E_law_estimate_ed42 (W : Wd) : Prop where eq : ∀ fuel n ss k, W.ph fuel (n + 1) 107 ss k = run (W.G fuel n) ⟨4, 12, i_law_estimate_ed42⟩ ss k
def i_law_selected : List IS := [.asgT (.tup [.name 4, .name 5]) (.call 107 [.var 0, .var 1, .var 2, .var 3]), .asgT (.tup [.name 6, .name 7]) (.idx (.idx (.var 0) (.con (.int 2))) (.var 4)), .ret (.ite (.chain .LtE .Lt (.con (.int 0)) (.bop .Sub (.var 5) (.var 6)) (.blt .len [.var 7])) (.idx (.var 7) (.bop .Sub (.var 5) (.var 6))) (.con .none))]
class E_law_selected (W : Wd) : Prop where eq : ∀ fuel n ss k, W.ph fuel (n + 1) 108 ss k = run (W.G fuel n) ⟨4, 8, i_law_selected⟩ ss k
def i_p_reduce_three : List IS := [.ret (.tup [.bop .BitXor (.bop .BitXor (.var 0) (.var 1)) (.var 2), .bop .Mult (.con (.int 2)) (.bop .BitOr (.bop .BitOr (.bop .BitAnd (.var 0) (.var 1)) (.bop .BitAnd (.var 0) (.var 2))) (.bop .BitAnd (.var 1) (.var 2)))])]
class E_p_reduce_three (W : Wd) : Prop where eq : ∀ fuel n ss k, W.ph fuel (n + 1) 115 ss k = run (W.G fuel n) ⟨3, 3, i_p_reduce_three⟩ ss k
def i_law_reduced : List IS := [.par [(3, false), (4, false), (5, false)] [.con (.int 0), .con (.int 0), .con (.int 1)], .for_ (.name 6) (.rng [.con (.int 600)]) [.asg 7 (.bop .Add (.bop .Add (.bop .Mod (.blt .int [.var 0]) (.con (.int 2))) (.bop .Mod (.blt .int [.var 1]) (.con (.int 2)))) (.bop .Mod (.blt .int [.var 2]) (.con (.int 2)))), .ite (.cmp .Eq (.tup [.var 0, .var 1, .var 2]) (.tup [.bop .FloorDiv (.var 0) (.con (.int 2)), .bop .FloorDiv (.var 1) (.con (.int 2)), .bop .FloorDiv (.var 2) (.con (.int 2))])) [.ret (.tup [.bop .Sub (.var 3) (.bop .Mult (.var 5) (.bop .Mod (.blt .int [.var 7]) (.con (.int 2)))), .bop .Sub (.var 4) (.bop .Mult (.bop .Mult (.con (.int 2)) (.var 5)) (.bop .FloorDiv (.var 7) (.con (.int 2))))])] [], .par [(3, false), (4, false), (5, false)] [.bop .Add (.var 3) (.bop .Mult (.var 5) (.bop .Mod (.blt .int [.var 7]) (.con (.int 2)))), .bop .Add (.var 4) (.bop .Mult (.bop .Mult (.con (.int 2)) (.var 5)) (.bop .FloorDiv (.var 7) (.con (.int 2)))), .bop .Mult (.con (.int 2)) (.var 5)], .par [(0, false), (1, false), (2, false)] [.bop .FloorDiv (.var 0) (.con (.int 2)), .bop .FloorDiv (.var 1) (.con (.int 2)), .bop .FloorDiv (.var 2) (.con (.int 2))]], .ret (.tup [.var 3, .var 4])]
class E_law_reduced (W : Wd) : Prop where eq : ∀ fuel n ss k, W.ph fuel (n + 1) 117 ss k = run (W.G fuel n) ⟨3, 8, i_law_reduced⟩ ss k
def i_p_need_operands : List IS := [.ite (.not_ (.call 87 [.var 0, .var 1, .var 2])) [.raise "BadOperands" (.var 2)] []]
class E_p_need_operands (W : Wd) : Prop where eq : ∀ fuel n ss k, W.ph fuel (n + 1) 121 ss k = run (W.G fuel n) ⟨3, 3, i_p_need_operands⟩ ss k
def i_p_next_remainder : List IS := [.asg 4 (.call 0 [.idx (.idx (.var 0) (.con (.int 0))) (.con (.int 0))]), .ite (.cmp .Eq (.idx (.idx (.var 0) (.con (.int 1))) (.con (.int 2))) (.con (.str "one"))) [.ret (.bop .Sub (.bop .Mult (.var 4) (.var 1)) (.bop .Mult (.var 2) (.var 3)))] [], .ret (.call 115 [.bop .Mult (.var 4) (.idx (.var 1) (.con (.int 0))), .bop .Mult (.var 4) (.idx (.var 1) (.con (.int 1))), .bop .Sub (.con (.int 0)) (.bop .Mult (.var 2) (.var 3))])]
class E_p_next_remainder (W : Wd) : Prop where eq : ∀ fuel n ss k, W.ph fuel (n + 1) 122 ss k = run (W.G fuel n) ⟨4, 5, i_p_next_remainder⟩ ss k
def i_p_run_on_6ffc : List IS := [.asgT (.tup [.name 3, .name 4, .name 5]) (.var 1), .par [(6, true), (7, true)] [.lst [], .lst [.var 3]], .for_ (.name 8) (.rng [.var 2]) [.asg 9 (.call 103 [.var 0, .call 102 [.var 0, .var 3, .var 4, .var 5]]), .ite (.cmp .Is (.var 9) (.con .none)) [.frz 7, .frz 6, .ret (.tup [.var 6, .var 7])] [], .asg 3 (.call 122 [.var 0, .var 3, .var 9, .var 4]), .app 6 (.var 9), .app 7 (.var 3)], .frz 7, .frz 6, .ret (.tup [.var 6, .var 7])]
class E_p_run_on_6ffc (W : Wd) : Prop where eq : ∀ fuel n ss k, W.ph fuel (n + 1) 123 ss k = run (W.G fuel n) ⟨3, 10, i_p_run_on_6ffc⟩ ss k
def i_p_need_run : List IS := [.ex (.call 100 [.var 0]), .ex (.call 121 [.idx (.var 0) (.con (.int 0)), .idx (.idx (.var 0) (.con (.int 1))) (.con (.int 2)), .var 1]), .ex (.call 21 [.var 2, .con (.int 0)])]
class E_p_need_run (W : Wd) : Prop where eq : ∀ fuel n ss k, W.ph fuel (n + 1) 124 ss k = run (W.G fuel n) ⟨3, 3, i_p_need_run⟩ ss k
def i_p_run_7176 : List IS := [.ex (.call 124 [.var 0, .var 1, .var 2]), .asgT (.tup [.name 3, .name 4]) (.call 123 [.var 0, .var 1, .var 2]), .ret (.tup [.blt .tuple [.var 3], .idx (.var 4) (.neg (.con (.int 1)))])]
class E_p_run_7176 (W : Wd) : Prop where eq : ∀ fuel n ss k, W.ph fuel (n + 1) 125 ss k = run (W.G fuel n) ⟨3, 5, i_p_run_7176⟩ ss k
def i_p_remainders : List IS := [.ex (.call 124 [.var 0, .var 1, .var 2]), .ret (.blt .tuple [.idx (.call 123 [.var 0, .var 1, .var 2]) (.con (.int 1))])]
class E_p_remainders (W : Wd) : Prop where eq : ∀ fuel n ss k, W.ph fuel (n + 1) 126 ss k = run (W.G fuel n) ⟨3, 3, i_p_remainders⟩ ss k
def i_law_step_e760 : List IS := [.asg 5 (.call 12 [.idx (.var 0) (.con (.int 0))]), .ite (.cmp .Eq (.var 1) (.con (.str "one"))) [.ret (.bop .Sub (.bop .Mult (.var 5) (.var 2)) (.bop .Mult (.var 3) (.var 4)))] [], .ret (.call 117 [.bop .Mult (.var 5) (.idx (.var 2) (.con (.int 0))), .bop .Mult (.var 5) (.idx (.var 2) (.con (.int 1))), .bop .Mult (.neg (.var 3)) (.var 4)])]
class E_law_step_e760 (W : Wd) : Prop where eq : ∀ fuel n ss k, W.ph fuel (n + 1) 127 ss k = run (W.G fuel n) ⟨5, 6, i_law_step_e760⟩ ss k
def i_law_run_9148 : List IS := [.asgT (.tup [.name 3, .name 4, .name 5]) (.var 1), .par [(6, true), (7, true)] [.lst [], .lst [.var 3]], .for_ (.name 8) (.rng [.var 2]) [.asg 9 (.call 108 [.var 0, .idx (.var 7) (.neg (.con (.int 1))), .var 4, .var 5]), .ite (.cmp .Is (.var 9) (.con .none)) [.brk] [], .app 6 (.var 9), .app 7 (.call 127 [.idx (.var 0) (.con (.int 0)), .idx (.idx (.var 0) (.con (.int 1))) (.con (.int 2)), .idx (.var 7) (.neg (.con (.int 1))), .var 9, .var 4])], .ret (.tup [.blt .tuple [.var 6], .blt .tuple [.var 7]])]
class E_law_run_9148 (W : Wd) : Prop where eq : ∀ fuel n ss k, W.ph fuel (n + 1) 128 ss k = run (W.G fuel n) ⟨3, 10, i_law_run_9148⟩ ss k
def i_p_is_in_bounds : List IS := [.ex (.call 4 [.var 0]), .ex (.call 33 [.var 1]), .ex (.call 21 [.var 2, .con (.int 1)]), .ret (.call 84 [.var 0, .var 1, .var 2])]
class E_p_is_in_bounds (W : Wd) : Prop where eq : ∀ fuel n ss k, W.ph fuel (n + 1) 131 ss k = run (W.G fuel n) ⟨3, 3, i_p_is_in_bounds⟩ ss k
def i_law_sum_d2ac : List IS := [.ret (.ite (.isi .tuple (.var 0)) (.blt .sum [.var 0]) (.var 0))]
class E_law_sum_d2ac (W : Wd) : Prop where eq : ∀ fuel n ss k, W.ph fuel (n + 1) 132 ss k = run (W.G fuel n) ⟨1, 1, i_law_sum_d2ac⟩ ss k
def i_law_excess : List IS := [.ret (.bop .Sub (.bop .Mult (.blt .abs [.var 1]) (.bop .Sub (.call 12 [.idx (.var 0) (.con (.int 0))]) (.con (.int 1)))) (.bop .Mult (.idx (.var 0) (.con (.int 1))) (.var 2)))]
class E_law_excess (W : Wd) : Prop where eq : ∀ fuel n ss k, W.ph fuel (n + 1) 135 ss k = run (W.G fuel n) ⟨3, 3, i_law_excess⟩ ss k
def i_law_reached_01a4 : List IS := [.par [(3, false), (4, false), (5, false)] [.idx (.var 0) (.con (.int 1)), .bop .LShift (.con (.int 1)) (.idx (.var 0) (.con (.int 0))), .ite (.cmp .Eq (.idx (.var 1) (.con (.int 2))) (.con (.str "one"))) (.con (.int 1)) (.con (.int 2))], .asg 6 (.bop .FloorDiv (.bop .Sub (.bop .Mult (.bop .LShift (.bop .Mult (.var 4) (.var 3)) (.idx (.var 1) (.con (.int 0)))) (.bop .Add (.bop .Add (.bop .LShift (.con (.int 1)) (.idx (.var 1) (.con (.int 1)))) (.var 2)) (.con (.int 1)))) (.con (.int 1))) (.bop .LShift (.bop .Sub (.var 4) (.con (.int 1))) (.idx (.var 1) (.con (.int 1))))), .ret (.tup [.bop .Sub (.neg (.var 6)) (.var 5), .var 6])]
class E_law_reached_01a4 (W : Wd) : Prop where eq : ∀ fuel n ss k, W.ph fuel (n + 1) 274 ss k = run (W.G fuel n) ⟨3, 7, i_law_reached_01a4⟩ ss k
def i_law_scheme_583a : List IS := [.asg 1 (.call 10 [.var 0, .lst [.con (.int 1), .con (.int 2), .con (.int 1), .con (.int 2), .con (.int 3), .con (.int 2), .con (.int 1), .con (.int 3)]]), .ret (.tup [.var 1, .bop .Add (.bop .LShift (.con (.int 1)) (.bop .Sub (.var 1) (.con (.int 1)))) (.call 9 [.var 0, .bop .LShift (.con (.int 1)) (.bop .Sub (.var 1) (.con (.int 1)))])])]
class E_law_scheme_583a (W : Wd) : Prop where eq : ∀ fuel n ss k, W.ph fuel (n + 1) 277 ss k = run (W.G fuel n) ⟨1, 2, i_law_scheme_583a⟩ ss k
def i_law_far : List IS := [.ret (.bop .Mod (.blt .int [.bop .Add (.bop .Add (.bop .LShift (.call 9 [.var 0, .con (.int 262144)]) (.con (.int 36))) (.bop .LShift (.call 9 [.var 0, .con (.int 262144)]) (.con (.int 18)))) (.call 9 [.var 0, .con (.int 262144)])]) (.var 1))]
class E_law_far (W : Wd) : Prop where eq : ∀ fuel n ss k, W.ph fuel (n + 1) 285 ss k = run (W.G fuel n) ⟨2, 2, i_law_far⟩ ss k
def i_law_operands_b39c : List IS := [.par [(3, false), (4, false), (5, false)] [.bop .LShift (.con (.int 1)) (.idx (.var 1) (.con (.int 0))), .idx (.var 1) (.con (.int 1)), .call 10 [.var 0, .lst [.con (.int 1), .con (.int 2), .con (.int 3), .con (.int 5), .con (.int 8), .con (.int 13), .con (.int 24), .con (.int 40), .bop .Add (.con (.int 1)) (.call 9 [.var 0, .con (.int 40)])]]], .asg 6 (.bop .Add (.bop .LShift (.con (.int 1)) (.var 5)) (.call 10 [.var 0, .lst [.con (.int 0), .bop .Sub (.bop .LShift (.con (.int 1)) (.var 5)) (.con (.int 1)), .call 285 [.var 0, .bop .LShift (.con (.int 1)) (.var 5)], .call 285 [.var 0, .bop .LShift (.con (.int 1)) (.var 5)]]])), .par [(7, false), (8, false)] [.bop .FloorDiv (.bop .Mult (.var 4) (.var 6)) (.bop .Sub (.var 3) (.con (.int 1))), .call 9 [.var 0, .con (.int 6)]], .asg 9 (.bop .Sub (.call 285 [.var 0, .bop .Add (.bop .Mult (.con (.int 2)) (.var 7)) (.con (.int 1))]) (.var 7)), .ite (.cmp .Eq (.var 8) (.con (.int 0))) [.asg 9 (.call 10 [.var 0, .lst [.var 7, .neg (.var 7), .bop .Sub (.var 7) (.con (.int 1)), .bop .Sub (.con (.int 1)) (.var 7)]])] [], .ite (.cmp .Eq (.var 8) (.con (.int 1))) [.asg 9 (.call 10 [.var 0, .lst [.con (.int 0), .con (.int 1), .neg (.con (.int 1)), .con (.int 2)]])] [], .ite (.cmp .In (.var 8) (.tup [.con (.int 2), .con (.int 3)])) [.asgT (.tup [.name 11, .name 12]) (.call 274 [.var 1, .var 2, .bop .RShift (.bop .LShift (.bop .Sub (.var 6) (.bop .LShift (.con (.int 1)) (.var 5))) (.idx (.var 2) (.con (.int 1)))) (.var 5)]), .asg 9 (.bop .Add (.bop .FloorDiv (.bop .LShift (.bop .Add (.var 11) (.call 9 [.var 0, .bop .Add (.bop .Sub (.var 12) (.var 11)) (.con (.int 1))])) (.var 5)) (.bop .LShift (.var 3) (.idx (.var 2) (.con (.int 0))))) (.call 9 [.var 0, .con (.int 2)]))] [], .asg 9 (.blt .min [.blt .max [.var 9, .neg (.var 7)], .var 7]), .ite (.cmp .Eq (.idx (.var 2) (.con (.int 2))) (.con (.str "one"))) [.ret (.tup [.var 9, .var 6, .var 5])] [], .asg 10 (.bop .Add (.var 9) (.call 10 [.var 0, .lst [.con (.int 0), .con (.int 1), .neg (.con (.int 1)), .var 6, .neg (.var 6), .call 285 [.var 0, .bop .LShift (.con (.int 1)) (.var 5)], .bop .Sub (.neg (.con (.int 1))) (.call 285 [.var 0, .bop .LShift (.con (.int 1)) (.var 5)]), .bop .Pow (.con (.int 10)) (.con (.int 12))]])), .ret (.tup [.tup [.var 10, .bop .Sub (.var 9) (.var 10)], .var 6, .var 5])]
class E_law_operands_b39c (W : Wd) : Prop where eq : ∀ fuel n ss k, W.ph fuel (n + 1) 286 ss k = run (W.G fuel n) ⟨3, 13, i_law_operands_b39c⟩ ss k
def i_p_need_kind : List IS := [.ite (.not_ (.call 65 [.var 0, .glob "KINDS"])) [.raise "BadNumber" (.var 0)] []]
class E_p_need_kind (W : Wd) : Prop where eq : ∀ fuel n ss k, W.ph fuel (n + 1) 318 ss k = run (W.G fuel n) ⟨1, 1, i_p_need_kind⟩ ss k
def i_p_need_mode : List IS := [.ite (.not_ (.call 65 [.var 0, .glob "MODES"])) [.raise "BadMode" (.var 0)] []]
class E_p_need_mode (W : Wd) : Prop where eq : ∀ fuel n ss k, W.ph fuel (n + 1) 340 ss k = run (W.G fuel n) ⟨1, 1, i_p_need_mode⟩ ss k
def i_p_is_fraction : List IS := [.ite (.or_ (.not_ (.call 2 [.var 0, .con (.int 2)])) (.or_ (.not_ (.call 1 [.idx (.var 0) (.con (.int 0))])) (.not_ (.call 1 [.idx (.var 0) (.con (.int 1))])))) [.ret (.con (.bool false))] [], .ret (.and_ (.cmp .Gt (.idx (.var 0) (.con (.int 1))) (.con (.int 0))) (.cmp .Eq (.blt .gcd [.idx (.var 0) (.con (.int 0)), .idx (.var 0) (.con (.int 1))]) (.con (.int 1))))]
class E_p_is_fraction (W : Wd) : Prop where eq : ∀ fuel n ss k, W.ph fuel (n + 1) 341 ss k = run (W.G fuel n) ⟨1, 1, i_p_is_fraction⟩ ss k
def i_p_need_fraction : List IS := [.ite (.not_ (.call 341 [.var 0])) [.raise "BadNumber" (.var 0)] []]
class E_p_need_fraction (W : Wd) : Prop where eq : ∀ fuel n ss k, W.ph fuel (n + 1) 342 ss k = run (W.G fuel n) ⟨1, 1, i_p_need_fraction⟩ ss k
def i_p_round_up_by_1754 : List IS := [.ite (.or_ (.cmp .Eq (.var 1) (.con (.int 0))) (.cmp .Eq (.var 3) (.con (.str "down")))) [.ret (.con (.bool false))] [], .ite (.cmp .Eq (.var 3) (.con (.str "up"))) [.ret (.con (.bool true))] [], .ite (.cmp .Eq (.var 3) (.con (.str "zero"))) [.ret (.cmp .Lt (.var 0) (.con (.int 0)))] [], .ret (.or_ (.cmp .Gt (.bop .Mult (.con (.int 2)) (.var 1)) (.var 2)) (.and_ (.cmp .Eq (.bop .Mult (.con (.int 2)) (.var 1)) (.var 2)) (.cmp .Eq (.bop .Mod (.var 0) (.con (.int 2))) (.con (.int 1)))))]
class E_p_round_up_by_1754 (W : Wd) : Prop where eq : ∀ fuel n ss k, W.ph fuel (n + 1) 343 ss k = run (W.G fuel n) ⟨4, 4, i_p_round_up_by_1754⟩ ss k
def i_p_round_pair_71cc : List IS := [.ret (.ite (.call 343 [.var 0, .var 1, .var 2, .var 3]) (.bop .Add (.var 0) (.con (.int 1))) (.var 0))]
class E_p_round_pair_71cc (W : Wd) : Prop where eq : ∀ fuel n ss k, W.ph fuel (n + 1) 344 ss k = run (W.G fuel n) ⟨4, 4, i_p_round_pair_71cc⟩ ss k
def i_p_rounded : List IS := [.ex (.call 342 [.var 0]), .ex (.call 340 [.var 1]), .asgT (.tup [.name 2, .name 3]) (.var 0), .ret (.call 344 [.bop .FloorDiv (.var 2) (.var 3), .bop .Mod (.var 2) (.var 3), .var 3, .var 1])]
class E_p_rounded (W : Wd) : Prop where eq : ∀ fuel n ss k, W.ph fuel (n + 1) 345 ss k = run (W.G fuel n) ⟨2, 4, i_p_rounded⟩ ss k
def i_law_pick_509b : List IS := [.ret (.idx (.var 1) (.call 9 [.var 0, .blt .len [.var 1]]))]
class E_law_pick_509b (W : Wd) : Prop where eq : ∀ fuel n ss k, W.ph fuel (n + 1) 346 ss k = run (W.G fuel n) ⟨2, 2, i_law_pick_509b⟩ ss k
def i_law_common_e7a2 : List IS := [.par [(0, false), (1, false)] [.blt .abs [.var 0], .blt .abs [.var 1]], .while_ (.cmp .NotEq (.var 1) (.con (.int 0))) [.par [(0, false), (1, false)] [.var 1, .bop .Mod (.blt .int [.var 0]) (.var 1)]], .ret (.var 0)]
class E_law_common_e7a2 (W : Wd) : Prop where eq : ∀ fuel n ss k, W.ph fuel (n + 1) 350 ss k = run (W.G fuel n) ⟨2, 2, i_law_common_e7a2⟩ ss k
def i_p_exact : List IS := [.ex (.call 4 [.var 0]), .ex (.call 318 [.var 1]), .ex (.call 121 [.var 0, .var 1, .var 2]), .ex (.call 21 [.var 3, .con (.int 0)]), .ex (.call 340 [.var 4]), .par [(5, false), (6, false)] [.bop .Mult (.call 86 [.idx (.var 2) (.con (.int 0))]) (.call 0 [.bop .Mult (.idx (.var 0) (.con (.int 0))) (.var 3)]), .idx (.var 2) (.con (.int 1))], .ret (.call 344 [.bop .FloorDiv (.var 5) (.var 6), .bop .Mod (.var 5) (.var 6), .var 6, .var 4])]
class E_p_exact (W : Wd) : Prop where eq : ∀ fuel n ss k, W.ph fuel (n + 1) 357 ss k = run (W.G fuel n) ⟨5, 7, i_p_exact⟩ ss k
def i_law_rounded_df42 : List IS := [.asg 3 (.bop .FloorDiv (.var 0) (.var 1)), .asg 4 (.bop .Sub (.var 0) (.bop .Mult (.var 3) (.var 1))), .ite (.or_ (.cmp .Eq (.var 4) (.con (.int 0))) (.cmp .Eq (.var 2) (.con (.str "down")))) [.ret (.var 3)] [], .ite (.cmp .Eq (.var 2) (.con (.str "even"))) [.ret (.bop .Add (.var 3) (.ite (.or_ (.cmp .Gt (.bop .Mult (.con (.int 2)) (.var 4)) (.var 1)) (.and_ (.cmp .Eq (.bop .Mult (.con (.int 2)) (.var 4)) (.var 1)) (.cmp .Eq (.bop .Mod (.blt .int [.var 3]) (.con (.int 2))) (.con (.int 1))))) (.con (.int 1)) (.con (.int 0))))] [], .ret (.ite (.or_ (.cmp .Eq (.var 2) (.con (.str "up"))) (.cmp .Lt (.var 0) (.con (.int 0)))) (.bop .Add (.var 3) (.con (.int 1))) (.var 3))]
class E_law_rounded_df42 (W : Wd) : Prop where eq : ∀ fuel n ss k, W.ph fuel (n + 1) 363 ss k = run (W.G fuel n) ⟨3, 5, i_law_rounded_df42⟩ ss k
def i_p_is_binary : List IS := [.ite (.or_ (.not_ (.call 2 [.var 0, .con (.int 2)])) (.or_ (.not_ (.call 1 [.idx (.var 0) (.con (.int 0))])) (.not_ (.call 1 [.idx (.var 0) (.con (.int 1))])))) [.ret (.con (.bool false))] [], .ret (.or_ (.cmp .Eq (.bop .Mod (.idx (.var 0) (.con (.int 0))) (.con (.int 2))) (.con (.int 1))) (.cmp .Eq (.var 0) (.tup [.con (.int 0), .con (.int 0)])))]
class E_p_is_binary (W : Wd) : Prop where eq : ∀ fuel n ss k, W.ph fuel (n + 1) 387 ss k = run (W.G fuel n) ⟨1, 1, i_p_is_binary⟩ ss k
def i_p_binary_of : List IS := [.ite (.cmp .Eq (.var 0) (.con (.int 0))) [.ret (.tup [.con (.int 0), .con (.int 0)])] [], .while_ (.cmp .Eq (.bop .Mod (.var 0) (.con (.int 2))) (.con (.int 0))) [.par [(0, false), (1, false)] [.bop .FloorDiv (.var 0) (.con (.int 2)), .bop .Add (.var 1) (.con (.int 1))]], .ret (.tup [.var 0, .var 1])]
class E_p_binary_of (W : Wd) : Prop where eq : ∀ fuel n ss k, W.ph fuel (n + 1) 388 ss k = run (W.G fuel n) ⟨2, 2, i_p_binary_of⟩ ss k
def i_p_bits_of : List IS := [.ret (.blt .bitlen [.var 0])]
class E_p_bits_of (W : Wd) : Prop where eq : ∀ fuel n ss k, W.ph fuel (n + 1) 389 ss k = run (W.G fuel n) ⟨1, 1, i_p_bits_of⟩ ss k
def i_p_rounded_bits_3592 : List IS := [.asg 4 (.bop .Sub (.bop .Sub (.call 389 [.blt .abs [.var 0]]) (.call 389 [.var 1])) (.var 2)), .while_ (.call 391 [.blt .abs [.var 0], .var 1, .var 4, .call 0 [.var 2]]) [.aug 4 .Add (.con (.int 1))], .asgT (.tup [.name 5, .name 6]) (.ite (.cmp .GtE (.var 4) (.con (.int 0))) (.tup [.var 0, .bop .Mult (.var 1) (.call 0 [.var 4])]) (.tup [.bop .Mult (.var 0) (.call 0 [.bop .Sub (.con (.int 0)) (.var 4)]), .var 1])), .ret (.call 388 [.call 344 [.bop .FloorDiv (.var 5) (.var 6), .bop .Mod (.var 5) (.var 6), .var 6, .var 3], .var 4])]
class E_p_rounded_bits_3592 (W : Wd) : Prop where eq : ∀ fuel n ss k, W.ph fuel (n + 1) 390 ss k = run (W.G fuel n) ⟨4, 7, i_p_rounded_bits_3592⟩ ss k
def i_p_shifted : List IS := [.ite (.cmp .GtE (.var 2) (.con (.int 0))) [.ret (.cmp .GtE (.var 0) (.bop .Mult (.bop .Mult (.var 1) (.call 0 [.var 2])) (.var 3)))] [], .ret (.cmp .GtE (.bop .Mult (.var 0) (.call 0 [.bop .Sub (.con (.int 0)) (.var 2)])) (.bop .Mult (.var 1) (.var 3)))]
class E_p_shifted (W : Wd) : Prop where eq : ∀ fuel n ss k, W.ph fuel (n + 1) 391 ss k = run (W.G fuel n) ⟨4, 4, i_p_shifted⟩ ss k
def i_p_to_bits_6372 : List IS := [.ex (.call 342 [.var 0]), .ex (.call 21 [.var 1, .con (.int 1)]), .ex (.call 340 [.var 2]), .ret (.ite (.cmp .Eq (.idx (.var 0) (.con (.int 0))) (.con (.int 0))) (.tup [.con (.int 0), .con (.int 0)]) (.call 390 [.idx (.var 0) (.con (.int 0)), .idx (.var 0) (.con (.int 1)), .var 1, .var 2]))]
class E_p_to_bits_6372 (W : Wd) : Prop where eq : ∀ fuel n ss k, W.ph fuel (n + 1) 392 ss k = run (W.G fuel n) ⟨3, 3, i_p_to_bits_6372⟩ ss k
def i_law_rounded_5b1f : List IS := [.asg 3 (.bop .FloorDiv (.var 0) (.var 1)), .asg 4 (.bop .Sub (.var 0) (.bop .Mult (.var 3) (.var 1))), .ite (.or_ (.cmp .Eq (.var 4) (.con (.int 0))) (.cmp .Eq (.var 2) (.con (.str "down")))) [.ret (.var 3)] [], .ite (.cmp .Eq (.var 2) (.con (.str "even"))) [.ret (.bop .Add (.var 3) (.ite (.or_ (.cmp .Gt (.bop .Mult (.con (.int 2)) (.var 4)) (.var 1)) (.and_ (.cmp .Eq (.bop .Mult (.con (.int 2)) (.var 4)) (.var 1)) (.cmp .Eq (.bop .Mod (.blt .int [.var 3]) (.con (.int 2))) (.con (.int 1))))) (.con (.int 1)) (.con (.int 0))))] [], .ret (.ite (.or_ (.cmp .Eq (.var 2) (.con (.str "up"))) (.cmp .Lt (.var 0) (.con (.int 0)))) (.bop .Add (.var 3) (.con (.int 1))) (.var 3))]
class E_law_rounded_5b1f (W : Wd) : Prop where eq : ∀ fuel n ss k, W.ph fuel (n + 1) 397 ss k = run (W.G fuel n) ⟨3, 5, i_law_rounded_5b1f⟩ ss k
def i_law_bits_9842 : List IS := [.ite (.cmp .Eq (.var 0) (.con (.int 0))) [.ret (.tup [.con (.int 0), .con (.int 0)])] [], .asg 4 (.bop .Sub (.bop .Sub (.blt .bitlen [.blt .abs [.var 0]]) (.blt .bitlen [.var 1])) (.var 2)), .ite (.cmp .GtE (.bop .LShift (.blt .abs [.var 0]) (.blt .max [.con (.int 0), .bop .Sub (.neg (.var 4)) (.var 2)])) (.bop .LShift (.var 1) (.blt .max [.con (.int 0), .bop .Add (.var 4) (.var 2)]))) [.asg 4 (.bop .Add (.var 4) (.con (.int 1)))] [], .asg 5 (.call 397 [.bop .LShift (.var 0) (.blt .max [.con (.int 0), .neg (.var 4)]), .bop .LShift (.var 1) (.blt .max [.con (.int 0), .var 4]), .var 3]), .for_ (.name 6) (.rng [.bop .Add (.var 2) (.con (.int 1))]) [.ite (.cmp .Eq (.bop .Mod (.blt .int [.var 5]) (.con (.int 2))) (.con (.int 0))) [.par [(5, false), (4, false)] [.bop .FloorDiv (.var 5) (.con (.int 2)), .bop .Add (.var 4) (.con (.int 1))]] []], .ret (.tup [.var 5, .var 4])]
class E_law_bits_9842 (W : Wd) : Prop where eq : ∀ fuel n ss k, W.ph fuel (n + 1) 398 ss k = run (W.G fuel n) ⟨4, 7, i_law_bits_9842⟩ ss k
def i_law_over : List IS := [.ret (.tup [.bop .LShift (.idx (.var 0) (.con (.int 0))) (.blt .max [.con (.int 0), .idx (.var 0) (.con (.int 1))]), .bop .LShift (.con (.int 1)) (.blt .max [.con (.int 0), .neg (.idx (.var 0) (.con (.int 1)))])])]
class E_law_over (W : Wd) : Prop where eq : ∀ fuel n ss k, W.ph fuel (n + 1) 400 ss k = run (W.G fuel n) ⟨1, 1, i_law_over⟩ ss k
def i_law_times : List IS := [.ret (.ite (.isi .tuple (.var 0)) (.blt .tuple [.comp (.bop .Mult (.var 2) (.var 1)) (.name 2) (.seq (.var 0)) [] [2]]) (.bop .Mult (.var 0) (.var 1)))]
class E_law_times (W : Wd) : Prop where eq : ∀ fuel n ss k, W.ph fuel (n + 1) 591 ss k = run (W.G fuel n) ⟨2, 3, i_law_times⟩ ss k
def i_lawk00_l0 : List IS := [.lamb [] (.call 7 [.var 4])]
class E_lawk00_l0 (W : Wd) : Prop where eq : ∀ fuel n ss k, W.ph fuel (n + 1) 100380 ss k = run (W.G fuel n) ⟨1, 1, i_lawk00_l0⟩ ss k
theorem u_lawk00_l0 {W : Wd} [h : E_lawk00_l0 W] {fuel n : Nat} {a0 : Sl} {k : Ds} : W.ph fuel (n + 1) 100380 [a0] k = fin (execs (W.G fuel n) i_lawk00_l0 [some a0] k) := h.eq fuel n _ k
def i_lawk00_l1 : List IS := [.lamb [] (.callk 7 [.var 4] [0])]
class E_lawk00_l1 (W : Wd) : Prop where eq : ∀ fuel n ss k, W.ph fuel (n + 1) 100381 ss k = run (W.G fuel n) ⟨1, 1, i_lawk00_l1⟩ ss k
theorem u_lawk00_l1 {W : Wd} [h : E_lawk00_l1 W] {fuel n : Nat} {a0 : Sl} {k : Ds} : W.ph fuel (n + 1) 100381 [a0] k = fin (execs (W.G fuel n) i_lawk00_l1 [some a0] k) := h.eq fuel n _ k
end Q

namespace Q
namespace K00
open PySem
def i_law_deck : List IS := [.asg 1 (.con (.int 144040)), .for_ (.name 2) (.seq (.sl (.var 0) none (some (.con (.int 63))))) [.asg 1 (.bop .Mod (.blt .int [.bop .Add (.bop .Add (.bop .Mult (.var 1) (.con (.int 40692))) (.bop .Mod (.blt .int [.var 2]) (.con (.int 2147483563)))) (.con (.int 11))]) (.con (.int 2147483629)))], .dkRet "left" (.revl (.blt .list [.sl (.var 0) none (some (.con (.int 63)))])) (.var 1) (.con (.int 0))]
def i_law_draw : List IS := [.dkSet 0 "draws" (.bop .Add (.dkGet 0 "draws") (.con (.int 1))), .asg 2 (.bop .Add (.dkGet 0 "mixed") (.bop .Mult (.con (.int 45491)) (.dkGet 0 "draws"))), .ite (.dkNe 0 "left") [.dkPop 3 0 "left", .ite (.cmp .GtE (.var 3) (.bop .Pow (.con (.int 10)) (.con (.int 18)))) [.dkApp 0 "left" (.bop .FloorDiv (.var 3) (.blt .max [.con (.int 2), .var 1])), .ret (.bop .Mod (.blt .int [.var 3]) (.var 1))] [], .asg 2 (.bop .Add (.var 2) (.bop .Mod (.blt .int [.var 3]) (.con (.int 2147483563))))] [], .asg 2 (.bop .Mod (.blt .int [.bop .Add (.bop .Mult (.var 2) (.con (.int 48271))) (.con (.int 11))]) (.con (.int 2147483587))), .asg 2 (.bop .Mod (.blt .int [.bop .Add (.bop .Add (.bop .Mult (.var 2) (.var 2)) (.bop .Mult (.con (.int 52361)) (.dkGet 0 "draws"))) (.con (.int 11))]) (.con (.int 2147483629))), .asg 2 (.bop .Mod (.blt .int [.bop .Mult (.var 2) (.con (.int 40014))]) (.con (.int 2147483647))), .ret (.bop .Mod (.blt .int [.bop .FloorDiv (.var 2) (.con (.int 64))]) (.var 1))]
def defs (f : Nat) : Option Df := bif Nat.beq f 0 then some ⟨1, 1, i_p_two⟩ else bif Nat.beq f 1 then some ⟨1, 1, i_p_is_integer⟩ else bif Nat.beq f 2 then some ⟨2, 2, i_p_is_tuple⟩ else bif Nat.beq f 3 then some ⟨1, 1, i_p_is_scheme_value⟩ else bif Nat.beq f 4 then some ⟨1, 1, i_p_need_scheme⟩ else bif Nat.beq f 5 then some ⟨2, 3, i_p_fraction⟩ else bif Nat.beq f 6 then some ⟨1, 1, i_p_is_scheme⟩ else bif Nat.beq f 7 then some ⟨1, 1, i_p_bound⟩ else bif Nat.beq f 8 then some ⟨1, 3, i_law_deck⟩ else bif Nat.beq f 9 then some ⟨2, 4, i_law_draw⟩ else bif Nat.beq f 10 then some ⟨2, 2, i_law_pick_fa54⟩ else bif Nat.beq f 11 then some ⟨2, 4, i_law_power⟩ else bif Nat.beq f 12 then some ⟨1, 1, i_law_two⟩ else bif Nat.beq f 13 then some ⟨1, 1, i_law_is_int_7e02⟩ else bif Nat.beq f 14 then some ⟨2, 2, i_law_is_tuple⟩ else bif Nat.beq f 15 then some ⟨1, 1, i_law_is_scheme_8282⟩ else bif Nat.beq f 16 then some ⟨1, 4, i_law_bound⟩ else bif Nat.beq f 17 then some ⟨1, 3, i_law_tried_a214⟩ else bif Nat.beq f 18 then some ⟨1, 4, i_law_any_56cc⟩ else bif Nat.beq f 19 then some ⟨1, 8, i_lawk00⟩ else bif Nat.beq f 100380 then some ⟨1, 1, i_lawk00_l0⟩ else bif Nat.beq f 100381 then some ⟨1, 1, i_lawk00_l1⟩ else none
def glob : Str → Option D := fun x => none
def subs : Str → Str → Bool := subOf [("DividerError", "DividerError"), ("BadScheme", "DividerError"), ("BadScheme", "BadScheme"), (".thing", "BadScheme")]
def wd : Wd := ⟨fun fuel n => phiN defs glob fuel subs n, glob, subs⟩
instance : E_p_two wd := ⟨fun _ _ _ _ => rfl⟩
instance : E_p_is_integer wd := ⟨fun _ _ _ _ => rfl⟩
instance : E_p_is_tuple wd := ⟨fun _ _ _ _ => rfl⟩
instance : E_p_is_scheme_value wd := ⟨fun _ _ _ _ => rfl⟩
instance : E_p_need_scheme wd := ⟨fun _ _ _ _ => rfl⟩
instance : E_p_fraction wd := ⟨fun _ _ _ _ => rfl⟩
instance : E_p_is_scheme wd := ⟨fun _ _ _ _ => rfl⟩
instance : E_p_bound wd := ⟨fun _ _ _ _ => rfl⟩
instance : E_law_pick_fa54 wd := ⟨fun _ _ _ _ => rfl⟩
instance : E_law_power wd := ⟨fun _ _ _ _ => rfl⟩
instance : E_law_two wd := ⟨fun _ _ _ _ => rfl⟩
instance : E_law_is_int_7e02 wd := ⟨fun _ _ _ _ => rfl⟩
instance : E_law_is_tuple wd := ⟨fun _ _ _ _ => rfl⟩
instance : E_law_is_scheme_8282 wd := ⟨fun _ _ _ _ => rfl⟩
instance : E_law_bound wd := ⟨fun _ _ _ _ => rfl⟩
instance : E_law_tried_a214 wd := ⟨fun _ _ _ _ => rfl⟩
instance : E_law_any_56cc wd := ⟨fun _ _ _ _ => rfl⟩
instance : E_lawk00 wd := ⟨fun _ _ _ _ => rfl⟩
instance : E_lawk00_l0 wd := ⟨fun _ _ _ _ => rfl⟩
instance : E_lawk00_l1 wd := ⟨fun _ _ _ _ => rfl⟩
instance : Sub wd [("DividerError", "DividerError"), ("BadScheme", "DividerError"), ("BadScheme", "BadScheme"), (".thing", "BadScheme")] := ⟨rfl⟩
instance : Draw wd := ⟨"left", fun {fuel n k m} h1 h2 h3 => draw_ok (G := wd.G fuel n) (key := "left") (A := 45491) (B := 2147483563) (C := 48271) (D' := 11) (E := 2147483587) (F := 52361) (G' := 11) (H := 2147483629) (I := 40014) (J := 2147483647) (by decide) (by decide) (by decide) (by decide) (by decide) (by decide) (by decide) (by decide) (by decide) (by decide) (by decide) h1 h2 h3⟩
instance : Deck wd := ⟨fun {fuel n ns} h => deck_ok (G := wd.G fuel n) (key := "left") (A := 144040) (M := 40692) (B := 2147483563) (C := 11) (D' := 2147483629) (by decide) (by decide) (by decide) (by decide) (by decide) h⟩
/-- what is left: the plain law -/
def Plain : Prop := ∀ ns : List Int, ns.length ≤ 63 → (∀ z ∈ ns, Builtin.Int.intBits z ≤ 1048576) → ∃ fuel k, wd.ph fuel 40 19 [.d (.list (ns.map PyData.int))] none = .ok (.d (.bool true)) k
end K00
end Q

namespace Q
open PySem
/-! ### La: numbers, schemes, strings -/
section
variable {W : Wd} {fuel n : Nat} {k : Ds}
abbrev tI (L : List Int) : D := .tuple (L.map PyData.int)
abbrev sch (r a : Int) : D := .tuple [.int r, .int a]
def Sc (r a : Int) : Prop := (r = 2 ∧ a = 2) ∨ (r = 1 ∧ a = 1) ∨ (r = 2 ∧ a = 3) ∨ (r = 3 ∧ a = 7) ∨ (r = 3 ∧ a = 4) ∨ (r = 3 ∧ a = 5) ∨ (r = 3 ∧ a = 6)
theorem sc_le {r a : Int} (h : Sc r a) : 1 ≤ r ∧ r ≤ 3 ∧ 1 ≤ a ∧ a ≤ 7 := by
  rcases h with ⟨rfl, rfl⟩ | ⟨rfl, rfl⟩ | ⟨rfl, rfl⟩ | ⟨rfl, rfl⟩ | ⟨rfl, rfl⟩ | ⟨rfl, rfl⟩ | ⟨rfl, rfl⟩ <;> decide
theorem ix0 {x : D} {xs : List D} : L2.atI (x :: xs) 0 = some x := by
  unfold L2.atI L2.ixN
  rw [if_pos (by decide), if_pos (by simp)]
  rfl
theorem ix1 {x y : D} {xs : List D} : L2.atI (x :: y :: xs) 1 = some y := by
  unfold L2.atI L2.ixN
  rw [if_pos (by decide), if_pos (by simp; omega)]
  rfl
theorem ix2 {x y z : D} {xs : List D} : L2.atI (x :: y :: z :: xs) 2 = some z := by
  unfold L2.atI L2.ixN
  rw [if_pos (by decide), if_pos (by simp; omega)]
  rfl
theorem lk0 : lenOk 0 = true := by decide
theorem lk1 : lenOk 1 = true := by decide
theorem lk2 : lenOk 2 = true := by decide
theorem lk3 : lenOk 3 = true := by decide
theorem lk4 : lenOk 4 = true := by decide
theorem lk5 : lenOk 5 = true := by decide
theorem lk6 : lenOk 6 = true := by decide
theorem lk7 : lenOk 7 = true := by decide
theorem lk8 : lenOk 8 = true := by decide
theorem lk9 : lenOk 9 = true := by decide
theorem lk10 : lenOk 10 = true := by decide
theorem lk11 : lenOk 11 = true := by decide
theorem lk12 : lenOk 12 = true := by decide
theorem lk13 : lenOk 13 = true := by decide
theorem lk14 : lenOk 14 = true := by decide
theorem lk15 : lenOk 15 = true := by decide
theorem lk16 : lenOk 16 = true := by decide
theorem lk17 : lenOk 17 = true := by decide
theorem lk18 : lenOk 18 = true := by decide
theorem lk19 : lenOk 19 = true := by decide
theorem lk20 : lenOk 20 = true := by decide
theorem lk21 : lenOk 21 = true := by decide
theorem lk22 : lenOk 22 = true := by decide
theorem lk23 : lenOk 23 = true := by decide
theorem lk24 : lenOk 24 = true := by decide
theorem lk25 : lenOk 25 = true := by decide
theorem lk26 : lenOk 26 = true := by decide
theorem lk27 : lenOk 27 = true := by decide
theorem lk28 : lenOk 28 = true := by decide
theorem lk29 : lenOk 29 = true := by decide
theorem lk30 : lenOk 30 = true := by decide
theorem lk31 : lenOk 31 = true := by decide
theorem lk32 : lenOk 32 = true := by decide
theorem rngL_at {lo : Int} {m i : Nat} {x : D} (h : (rngL lo m)[i]? = some x) : i < m ∧ x = .int (lo + (i : Nat)) := by
  unfold rngL at h
  rw [List.getElem?_map] at h
  cases e : (List.range m)[i]? with
  | none => rw [e] at h; cases h
  | some j =>
    rw [e] at h; cases h
    obtain ⟨hh, e2⟩ := List.getElem?_eq_some_iff.mp e
    rw [List.getElem_range] at e2
    subst e2
    exact ⟨by simpa using hh, rfl⟩
theorem rngL_len {lo : Int} {m : Nat} : (rngL lo m).length = m := by simp [rngL]
theorem log9 {m : Int} (h0 : 0 ≤ m) (h : m < 1000000) : m.natAbs.log2 < 9000 := by
  have h1 : m.natAbs < 2 ^ 20 := by
    have : (2 : Nat) ^ 20 = 1048576 := by decide
    omega
  exact Nat.lt_of_lt_of_le (log2_lt h1 (by decide)) (by decide)
theorem s62 {m : Int} (h0 : -1000000 ≤ m) (h : m < 1000000) : small62 m = true := by
  unfold small62
  rw [decide_eq_true_iff]
  omega
theorem forL_eq {f : D → Tau → Ds → Xs} (T : Nat → Tau) {k : Ds} : ∀ (xs : List D) (j : Nat), (∀ i x, xs[i]? = some x → f x (T (j + i)) k = .ok .nx (T (j + i + 1)) k) → forL f xs (T j) k = .ok .nx (T (j + xs.length)) k
  | [], j, _ => rfl
  | x :: xs, j, h => by
    have h0 := h 0 x rfl
    show (match f x (T j) k with
      | .ok .nx t k => forL f xs t k
      | .ok .ct t k => forL f xs t k
      | .ok .bk t k => .ok .nx t k
      | r => r) = _
    rw [show f x (T j) k = .ok .nx (T (j + 1)) k from h0]
    show forL f xs (T (j + 1)) k = _
    rw [forL_eq T xs (j + 1) fun i y hy => by
      have z := h (i + 1) y (by simpa using hy)
      rw [show j + (i + 1) = j + 1 + i by omega] at z
      exact z]
    rw [List.length_cons, show j + 1 + xs.length = j + (xs.length + 1) by omega]
theorem rep_40 {z : Int} (h1 : -1000000000000 ≤ z) (h2 : z ≤ 1000000000000) : Rep (.int z) 42 0 := by
  have e : (2 : Nat) ^ 40 = 1099511627776 := by decide
  exact (rep_int (b := 40) (by decide) (log2_lt (by omega) (by decide)) (by decide)).mono (by decide) (by decide)
theorem shows_of {d : D} {c e : Nat} (h : Rep d c e) (hc : c ≤ 16000000) (he : e ≤ 60) : (PyData.showable d && lenOk (PyData.shown d).length && decide (PyData.depth d ≤ 60)) = true := by
  have z := repr_of h hc he
  unfold bltD at z
  by_cases q : (PyData.showable d && lenOk (PyData.shown d).length && decide (PyData.depth d ≤ 60)) = true
  · exact q
  · simp only [q, if_false] at z
    cases z
theorem s_two [E_p_two W] {i : Int} (h0 : 0 ≤ i) (h1 : i ≤ 1000000) : W.ph fuel (n+1) 0 [.d (.int i)] k = .ok (.d (.int (2 ^ i.toNat))) k := by
  have e : powOk 1 i = true := by unfold powOk; simp [h0, h1]
  rw [u_p_two]
  simp only [i_p_two, zA, zB, zC, zD, zE, zF, zG, zH, zI, zJ, zK, zL, zM, zN, zO, zP, zQ, zR, zS, zT, zU, zV, zW, zX, zY, zZ, za, zb, zc, zd, ze, zf, zg, zh, zi, zj, zk, zl, zm, mkR_ok, zn, eq_self, Option.isNone_none, List.zip_cons_cons, List.zip_nil_left, zo, zp, zq, zr, Bool.true_or, Bool.or_true, zt, zu, zv, zw, zx, zy, zz, yA, yB, yC, yD, yE, yF, yG, yH, yI, yJ, yK, yL, yM, yN, yO, yP, evs, evds, evx, evI, evIs, sets, dl, lend, varT, data, dat, opt, tst, truD, yQ, yR, yS, yT, List.getD_cons_zero, List.getD_cons_succ, List.set_cons_zero, List.set_cons_succ, List.map_cons, List.map_nil, Option.map_some, Option.bind_some, yU, yV, yX, yY, yZ, ya, yc, yd, ye, yf, yg, yh, yi, yj, yk, yl, ym, yn, yo, yp, yq, yr, yt, yu, yw, yx, yy, yz, qA, qB, qC, qD, qE, qF, qG, qH, qI, qJ, qK, qL, qM, qN, qO, qP, qQ, qR, qS, qT, qU, qV, bltD, idxD, negD, itemsD, isiD, if_true, Bool.false_eq_true, if_false, Bool.not_true, Bool.not_false, e, Int.one_mul]
theorem s_int [E_p_is_integer W] {i : Int} : W.ph fuel (n+1) 1 [.d (.int i)] k = .ok (.d (.bool true)) k := by
  rw [u_p_is_integer]; rfl
theorem s_tup [E_p_is_tuple W] {xs : List D} {m : Int} : W.ph fuel (n+1) 2 [.d (.tuple xs), .d (.int m)] k = .ok (.d (.bool (decide ((xs.length : Int) = m)))) k := by
  rw [u_p_is_tuple]; simp only [i_p_is_tuple, zA, zB, zC, zD, zE, zF, zG, zH, zI, zJ, zK, zL, zM, zN, zO, zP, zQ, zR, zS, zT, zU, zV, zW, zX, zY, zZ, za, zb, zc, zd, ze, zf, zg, zh, zi, zj, zk, zl, zm, mkR_ok, zn, eq_self, Option.isNone_none, List.zip_cons_cons, List.zip_nil_left, zo, zp, zq, zr, Bool.true_or, Bool.or_true, zt, zu, zv, zw, zx, zy, zz, yA, yB, yC, yD, yE, yF, yG, yH, yI, yJ, yK, yL, yM, yN, yO, yP, evs, evds, evx, evI, evIs, sets, dl, lend, varT, data, dat, opt, tst, truD, yQ, yR, yS, yT, List.getD_cons_zero, List.getD_cons_succ, List.set_cons_zero, List.set_cons_succ, List.map_cons, List.map_nil, Option.map_some, Option.bind_some, yU, yV, yX, yY, yZ, ya, yc, yd, ye, yf, yg, yh, yi, yj, yk, yl, ym, yn, yo, yp, yq, yr, yt, yu, yw, yx, yy, yz, qA, qB, qC, qD, qE, qF, qG, qH, qI, qJ, qK, qL, qM, qN, qO, qP, qQ, qR, qS, qT, qU, qV, bltD, idxD, negD, itemsD, isiD, if_true, Bool.false_eq_true, if_false, Bool.not_true, Bool.not_false]
theorem d22 : decide (((0 + 1 + 1 : Nat) : Int) = 2) = true := rfl
theorem s_scheme_value [E_p_two W] [E_p_is_integer W] [E_p_is_tuple W] [E_p_is_scheme_value W] {r a : Int} (h : Sc r a) : W.ph fuel (n+2) 3 [.d (sch r a)] k = .ok (.d (.bool true)) k := by
  rw [u_p_is_scheme_value]
  have hs := sc_le h
  simp only [i_p_is_scheme_value, zA, zB, zC, zD, zE, zF, zG, zH, zI, zJ, zK, zL, zM, zN, zO, zP, zQ, zR, zS, zT, zU, zV, zW, zX, zY, zZ, za, zb, zc, zd, ze, zf, zg, zh, zi, zj, zk, zl, zm, mkR_ok, zn, eq_self, Option.isNone_none, List.zip_cons_cons, List.zip_nil_left, zo, zp, zq, zr, Bool.true_or, Bool.or_true, zt, zu, zv, zw, zx, zy, zz, yA, yB, yC, yD, yE, yF, yG, yH, yI, yJ, yK, yL, yM, yN, yO, yP, evs, evds, evx, evI, evIs, sets, dl, lend, varT, data, dat, opt, tst, truD, yQ, yR, yS, yT, List.getD_cons_zero, List.getD_cons_succ, List.set_cons_zero, List.set_cons_succ, List.map_cons, List.map_nil, Option.map_some, Option.bind_some, yU, yV, yX, yY, yZ, ya, yc, yd, ye, yf, yg, yh, yi, yj, yk, yl, ym, yn, yo, yp, yq, yr, yt, yu, yw, yx, yy, yz, qA, qB, qC, qD, qE, qF, qG, qH, qI, qJ, qK, qL, qM, qN, qO, qP, qQ, qR, qS, qT, qU, qV, bltD, idxD, negD, itemsD, isiD, if_true, Bool.false_eq_true, if_false, Bool.not_true, Bool.not_false, s_tup, s_int, ix0, ix1, List.length_cons, List.length_nil, d22, decide_eq_true hs.1, decide_eq_true hs.2.1, s_two (i := r - 1) (W := W) (by omega) (by omega), s_two (i := r) (W := W) (by omega) (by omega)]
  rcases h with ⟨rfl, rfl⟩ | ⟨rfl, rfl⟩ | ⟨rfl, rfl⟩ | ⟨rfl, rfl⟩ | ⟨rfl, rfl⟩ | ⟨rfl, rfl⟩ | ⟨rfl, rfl⟩ <;> rfl
theorem s_scheme [E_p_two W] [E_p_is_integer W] [E_p_is_tuple W] [E_p_is_scheme_value W] [E_p_need_scheme W] {r a : Int} (h : Sc r a) : W.ph fuel (n+3) 4 [.d (sch r a)] k = .ok (.d .none) k := by
  rw [u_p_need_scheme]
  simp only [i_p_need_scheme, zA, zB, zC, zD, zE, zF, zG, zH, zI, zJ, zK, zL, zM, zN, zO, zP, zQ, zR, zS, zT, zU, zV, zW, zX, zY, zZ, za, zb, zc, zd, ze, zf, zg, zh, zi, zj, zk, zl, zm, mkR_ok, zn, eq_self, Option.isNone_none, List.zip_cons_cons, List.zip_nil_left, zo, zp, zq, zr, Bool.true_or, Bool.or_true, zt, zu, zv, zw, zx, zy, zz, yA, yB, yC, yD, yE, yF, yG, yH, yI, yJ, yK, yL, yM, yN, yO, yP, evs, evds, evx, evI, evIs, sets, dl, lend, varT, data, dat, opt, tst, truD, yQ, yR, yS, yT, List.getD_cons_zero, List.getD_cons_succ, List.set_cons_zero, List.set_cons_succ, List.map_cons, List.map_nil, Option.map_some, Option.bind_some, yU, yV, yX, yY, yZ, ya, yc, yd, ye, yf, yg, yh, yi, yj, yk, yl, ym, yn, yo, yp, yq, yr, yt, yu, yw, yx, yy, yz, qA, qB, qC, qD, qE, qF, qG, qH, qI, qJ, qK, qL, qM, qN, qO, qP, qQ, qR, qS, qT, qU, qV, bltD, idxD, negD, itemsD, isiD, if_true, Bool.false_eq_true, if_false, Bool.not_true, Bool.not_false, s_scheme_value h]
end
end Q

namespace Q
open PySem
/-! ### Lb: drawing, powers, strings -/
section
variable {W : Wd} {fuel n : Nat} {k : Ds}
theorem s_draw [Draw W] {m : Int} (hm : 0 < m) (hm2 : m < 1000000) (hd : dkO W k) : OkE (W.ph fuel (n+1) 9 [.deck, .d (.int m)] k) fun s k' => dkO W k' ∧ ∃ q, s = .d (.int q) ∧ 0 ≤ q ∧ q < m := Draw.ok hm (log9 (by omega) hm2) hd
theorem s_pick [Draw W] [E_law_pick_fa54 W] {xs : List D} (h0 : xs ≠ []) (h1 : xs.length ≤ 1000) (hd : dkO W k) : OkE (W.ph fuel (n+2) 10 [.deck, .d (.list xs)] k) fun s k' => dkO W k' ∧ ∃ x ∈ xs, s = .d x := by
  have hl : 0 < xs.length := by cases xs with
    | nil => exact absurd rfl h0
    | cons _ _ => simp
  obtain ⟨s, k', e, hk, q, rfl, q0, q1⟩ := s_draw (W := W) (fuel := fuel) (n := n) (k := k) (m := (xs.length : Int)) (by omega) (by omega) hd
  have hq : q.toNat < xs.length := by omega
  have ha : L2.atI xs q = some xs[q.toNat] := by
    unfold L2.atI L2.ixN
    rw [if_pos q0, if_pos q1]
    exact List.getElem?_eq_getElem hq
  refine ⟨.d xs[q.toNat], k', ?_, hk, _, List.getElem_mem hq, rfl⟩
  rw [u_law_pick_fa54]
  simp only [i_law_pick_fa54, zA, zB, zC, zD, zE, zF, zG, zH, zI, zJ, zK, zL, zM, zN, zO, zP, zQ, zR, zS, zT, zU, zV, zW, zX, zY, zZ, za, zb, zc, zd, ze, zf, zg, zh, zi, zj, zk, zl, zm, mkR_ok, zn, eq_self, Option.isNone_none, List.zip_cons_cons, List.zip_nil_left, zo, zp, zq, zr, Bool.true_or, Bool.or_true, zt, zu, zv, zw, zx, zy, zz, yA, yB, yC, yD, yE, yF, yG, yH, yI, yJ, yK, yL, yM, yN, yO, yP, evs, evds, evx, evI, evIs, sets, dl, lend, varT, data, dat, opt, tst, truD, yQ, yR, yS, yT, List.getD_cons_zero, List.getD_cons_succ, List.set_cons_zero, List.set_cons_succ, List.map_cons, List.map_nil, Option.map_some, Option.bind_some, yU, yV, yX, yY, yZ, ya, yc, yd, ye, yf, yg, yh, yi, yj, yk, yl, ym, yn, yo, yp, yq, yr, yt, yu, yw, yx, yy, yz, qA, qB, qC, qD, qE, qF, qG, qH, qI, qJ, qK, qL, qM, qN, qO, qP, qQ, qR, qS, qT, qU, qV, bltD, idxD, negD, itemsD, isiD, if_true, Bool.false_eq_true, if_false, Bool.not_true, Bool.not_false, e, ha]
theorem s_power [E_law_power W] {b m : Int} (hb : smallI b = true) (h0 : 0 ≤ m) (h1 : small62 m = true) : W.ph fuel (n+1) 11 [.d (.int b), .d (.int m)] k = .ok (.d (.int (b ^ m.toNat))) k := by
  rw [u_law_power]
  have e : forL (forB (W.G fuel n) (.name 3) [.asg 2 (.bop .Mult (.var 2) (.var 0))]) (rngL 0 m.toNat) [some (.d (.int b)), some (.d (.int m)), some (.d (.int 1)), none] k = .ok .nx [some (.d (.int b)), some (.d (.int m)), some (.d (.int (b ^ m.toNat))), if m.toNat = 0 then none else some (.d (.int (m.toNat - 1)))] k := by
    have z := forL_eq (f := forB (W.G fuel n) (.name 3) [.asg 2 (.bop .Mult (.var 2) (.var 0))]) (fun i => [some (.d (.int b)), some (.d (.int m)), some (.d (.int (b ^ i))), if i = 0 then none else some (.d (.int ((i : Int) - 1)))]) (k := k) (rngL 0 m.toNat) 0 fun i x hx => by
      obtain ⟨_, hx2⟩ := rngL_at hx
      rw [Int.zero_add] at hx2
      subst hx2
      rw [forB_ok (t' := [some (.d (.int b)), some (.d (.int m)), some (.d (.int (b ^ i))), some (.d (.int (i : Int)))]) (by simp [bindG])]
      simp only [zA, zB, zC, zD, zE, zF, zG, zH, zI, zJ, zK, zL, zM, zN, zO, zP, zQ, zR, zS, zT, zU, zV, zW, zX, zY, zZ, za, zb, zc, zd, ze, zf, zg, zh, zi, zj, zk, zl, zm, mkR_ok, zn, eq_self, Option.isNone_none, List.zip_cons_cons, List.zip_nil_left, zo, zp, zq, zr, Bool.true_or, Bool.or_true, zt, zu, zv, zw, zx, zy, zz, yA, yB, yC, yD, yE, yF, yG, yH, yI, yJ, yK, yL, yM, yN, yO, yP, evs, evds, evx, evI, evIs, sets, dl, lend, varT, data, dat, opt, tst, truD, yQ, yR, yS, yT, List.getD_cons_zero, List.getD_cons_succ, List.set_cons_zero, List.set_cons_succ, List.map_cons, List.map_nil, Option.map_some, Option.bind_some, yU, yV, yX, yY, yZ, ya, yc, yd, ye, yf, yg, yh, yi, yj, yk, yl, ym, yn, yo, yp, yq, yr, yt, yu, yw, yx, yy, yz, qA, qB, qC, qD, qE, qF, qG, qH, qI, qJ, qK, qL, qM, qN, qO, qP, qQ, qR, qS, qT, qU, qV, bltD, idxD, negD, itemsD, isiD, if_true, Bool.false_eq_true, if_false, Bool.not_true, Bool.not_false, mulOk_r hb, Nat.zero_add, Int.pow_succ]
      simp
    simp only [Nat.zero_add] at z
    rw [rngL_len] at z
    simpa using z
  simp only [i_law_power, zA, zB, zC, zD, zE, zF, zG, zH, zI, zJ, zK, zL, zM, zN, zO, zP, zQ, zR, zS, zT, zU, zV, zW, zX, zY, zZ, za, zb, zc, zd, ze, zf, zg, zh, zi, zj, zk, zl, zm, mkR_ok, zn, eq_self, Option.isNone_none, List.zip_cons_cons, List.zip_nil_left, zo, zp, zq, zr, Bool.true_or, Bool.or_true, zt, zu, zv, zw, zx, zy, zz, yA, yB, yC, yD, yE, yF, yG, yH, yI, yJ, yK, yL, yM, yN, yO, yP, evs, evds, evx, evI, evIs, sets, dl, lend, varT, data, dat, opt, tst, truD, yQ, yR, yS, yT, List.getD_cons_zero, List.getD_cons_succ, List.set_cons_zero, List.set_cons_succ, List.map_cons, List.map_nil, Option.map_some, Option.bind_some, yU, yV, yX, yY, yZ, ya, yc, yd, ye, yf, yg, yh, yi, yj, yk, yl, ym, yn, yo, yp, yq, yr, yt, yu, yw, yx, yy, yz, qA, qB, qC, qD, qE, qF, qG, qH, qI, qJ, qK, qL, qM, qN, qO, qP, qQ, qR, qS, qT, qU, qV, bltD, idxD, negD, itemsD, isiD, if_true, Bool.false_eq_true, if_false, Bool.not_true, Bool.not_false, exec_for, lentI, evi, rngD, h1, e]
theorem s_ltwo [E_law_power W] [E_law_two W] {m : Int} (h0 : 0 ≤ m) (h1 : small62 m = true) : W.ph fuel (n+2) 12 [.d (.int m)] k = .ok (.d (.int (2 ^ m.toNat))) k := by
  rw [u_law_two]
  simp only [i_law_two, zA, zB, zC, zD, zE, zF, zG, zH, zI, zJ, zK, zL, zM, zN, zO, zP, zQ, zR, zS, zT, zU, zV, zW, zX, zY, zZ, za, zb, zc, zd, ze, zf, zg, zh, zi, zj, zk, zl, zm, mkR_ok, zn, eq_self, Option.isNone_none, List.zip_cons_cons, List.zip_nil_left, zo, zp, zq, zr, Bool.true_or, Bool.or_true, zt, zu, zv, zw, zx, zy, zz, yA, yB, yC, yD, yE, yF, yG, yH, yI, yJ, yK, yL, yM, yN, yO, yP, evs, evds, evx, evI, evIs, sets, dl, lend, varT, data, dat, opt, tst, truD, yQ, yR, yS, yT, List.getD_cons_zero, List.getD_cons_succ, List.set_cons_zero, List.set_cons_succ, List.map_cons, List.map_nil, Option.map_some, Option.bind_some, yU, yV, yX, yY, yZ, ya, yc, yd, ye, yf, yg, yh, yi, yj, yk, yl, ym, yn, yo, yp, yq, yr, yt, yu, yw, yx, yy, yz, qA, qB, qC, qD, qE, qF, qG, qH, qI, qJ, qK, qL, qM, qN, qO, qP, qQ, qR, qS, qT, qU, qV, bltD, idxD, negD, itemsD, isiD, if_true, Bool.false_eq_true, if_false, Bool.not_true, Bool.not_false, s_power (W := W) (b := 2) (by decide) h0 h1]
end
end Q

namespace Q
open PySem
/-! ### Lc: the value of a string -/
section
variable {W : Wd} {fuel n : Nat} {k : Ds}
/-- the number that the places hold -/
def held (r : Int) (L : List Int) : Int := L.foldl (fun f d => f * r + d) 0
def most (r a : Int) (m : Nat) : Int := a * ((2 ^ r.toNat) ^ m - 1) / (2 ^ r.toNat - 1)
end
end Q

namespace Q
open PySem
/-! ### Ld: conversion on the fly -/
section
variable {W : Wd} {fuel n : Nat} {k : Ds}
def ap1 (R q : Int) (L M : List Int) : List Int := if 0 ≤ q then L ++ [q] else M ++ [R + q]
def ap2 (R q : Int) (L M : List Int) : List Int := if 0 < q then L ++ [q - 1] else M ++ [R - 1 + q]
abbrev pr (L M : List Int) : D := .tuple [tI L, tI M]
/-- the registers behind a string -/
def rgs (R : Int) (S : List Int) : List Int × List Int := S.foldl (fun p q => (ap1 R q p.1 p.2, ap2 R q p.1 p.2)) ([], [])
/-- the places of a number, the least ones last -/
def pls (R v : Int) : Nat → List Int
  | 0 => []
  | m + 1 => pls R (v / R) m ++ [v % R]
end
end Q

namespace Q
open PySem
/-! ### Le: equality of data -/
/-- data that may be asked for equality -/
structure Shp (d : D) (e : Nat) : Prop where
  c : d.canLay0 = true
  d : d.depth ≤ e
structure ShpA (ds : List D) (e : Nat) : Prop where
  c : PyData.canLayAll0 ds = true
  d : PyData.depthAll ds ≤ e
theorem Shp.mono {d : D} {e e' : Nat} (h : Shp d e) (l : e ≤ e') : Shp d e' := ⟨h.c, Nat.le_trans h.d l⟩
end Q

namespace Q
open PySem
/-! ### Lf: loops of a law's body -/
/-- a loop that is never left early, with what holds at each turn -/
theorem OkX.loop {G : Gx} {g : Tg} {it : IT} {b ss : List IS} {t : Tau} {k k' : Ds} {Q : Fl → Tau → Ds → Prop} (xs : List D) (I : Nat → Tau → Ds → Prop) (hl : lentI t it = false) (he : evi G t it k = .ok xs k') (h0 : I 0 t k')
    (hs : ∀ i x t k, xs[i]? = some x → I i t k → ∃ t', bindG g x t = some t' ∧ OkX (execs G b t' k) fun f t k => f = .nx ∧ I (i + 1) t k)
    (rest : ∀ t k, I xs.length t k → OkX (execs G ss t k) Q) : OkX (execs G (.for_ g it b :: ss) t k) Q := by
  refine OkX.cons ?_
  rw [exec_for, hl]
  simp only [Bool.false_eq_true, if_false, he, yR]
  refine OkX.mono (OkX.for I (Q := fun f t k => f = .nx ∧ I xs.length t k) xs 0 t k' h0 (fun i x t k hx hi => ?_) fun t k h => ⟨rfl, by rwa [Nat.zero_add] at h⟩) fun f t k h => ?_
  · obtain ⟨t', h1, h2⟩ := hs i x t k hx (by rwa [Nat.zero_add] at hi)
    rw [forB_ok h1]
    refine h2.mono fun f t k ⟨hf, h⟩ => ?_
    subst hf
    rw [Nat.zero_add]
    exact h
  · obtain ⟨rfl, h⟩ := h
    exact rest t k h
theorem evi_rng {G : Gx} {t : Tau} {k : Ds} {m : Int} (h : small62 m = true) : evi G t (.rng [.con (.int m)]) k = .ok (rngL 0 m.toNat) k := by
  simp only [evi, zA, zB, zC, zD, zE, zF, zG, zH, zI, zJ, zK, zL, zM, zN, zO, zP, zQ, zR, zS, zT, zU, zV, zW, zX, zY, zZ, za, zb, zc, zd, ze, zf, zg, zh, zi, zj, zk, zl, zm, mkR_ok, zn, eq_self, Option.isNone_none, List.zip_cons_cons, List.zip_nil_left, zo, zp, zq, zr, Bool.true_or, Bool.or_true, zt, zu, zv, zw, zx, zy, zz, yA, yB, yC, yD, yE, yF, yG, yH, yI, yJ, yK, yL, yM, yN, yO, yP, evs, evds, evx, evI, evIs, sets, dl, lend, varT, data, dat, opt, tst, truD, yQ, yR, yS, yT, List.getD_cons_zero, List.getD_cons_succ, List.set_cons_zero, List.set_cons_succ, List.map_cons, List.map_nil, Option.map_some, Option.bind_some, yU, yV, yX, yY, yZ, ya, yc, yd, ye, yf, yg, yh, yi, yj, yk, yl, ym, yn, yo, yp, yq, yr, yt, yu, yw, yx, yy, yz, qA, qB, qC, qD, qE, qF, qG, qH, qI, qJ, qK, qL, qM, qN, qO, qP, qQ, qR, qS, qT, qU, qV, bltD, idxD, negD, itemsD, isiD, if_true, Bool.false_eq_true, if_false, Bool.not_true, Bool.not_false, rngD, h]
/-- the plain law from the body's -/
theorem okT {r : Rs Sl} (h : OkE r fun s _ => s = .d (.bool true)) : ∃ k, r = .ok (.d (.bool true)) k := by
  obtain ⟨s, k, e, rfl⟩ := h
  exact ⟨k, e⟩
/-- a def that computes a value and draws nothing -/
theorem okEq {r : Rs Sl} {v : Sl} {k : Ds} (h : OkE r fun s k' => s = v ∧ k' = k) : r = .ok v k := by
  obtain ⟨s, k', e, rfl, rfl⟩ := h
  exact e
end Q

namespace Q
open PySem
/-! ### Lg: operands, fractions, rounding -/
section
variable {W : Wd} {fuel n : Nat} {k : Ds}
def Md (m : Str) : Prop := m = "down" ∨ m = "up" ∨ m = "zero" ∨ m = "even"
def Kd (m : Str) : Prop := m = "one" ∨ m = "pair"
/-- a divisor of a width -/
def Dv (d n : Int) : Prop := 1 ≤ n ∧ n ≤ 900 ∧ 2 ^ n.toNat ≤ d ∧ d < 2 ^ (n.toNat + 1)
theorem Dv.pos {d n : Int} (h : Dv d n) : 0 < d := by
  have : (0 : Int) < 2 ^ n.toNat := Int.pow_pos (by decide)
  have := h.2.2.1
  omega
theorem Dv.bits {d n : Int} (h : Dv d n) : ((Builtin.Int.intBits d : Nat) : Int) = n + 1 := by
  have hp := h.pos
  have e0 : (d == 0) = false := by simp; omega
  unfold Builtin.Int.intBits
  rw [e0]
  simp only [Bool.false_eq_true, if_false]
  have h1 := h.2.2.1
  have h2 := h.2.2.2
  have a1 : 2 ^ n.toNat ≤ d.natAbs := by
    have : ((2 ^ n.toNat : Nat) : Int) ≤ (d.natAbs : Int) := by rw [Int.natCast_pow]; show (2 : Int) ^ n.toNat ≤ _; omega
    exact_mod_cast this
  have a2 : d.natAbs < 2 ^ (n.toNat + 1) := by
    have : (d.natAbs : Int) < ((2 ^ (n.toNat + 1) : Nat) : Int) := by rw [Int.natCast_pow]; show _ < (2 : Int) ^ (n.toNat + 1); omega
    exact_mod_cast this
  have : d.natAbs.log2 = n.toNat := by
    apply Nat.le_antisymm
    · have := (Nat.log2_lt (by omega : d.natAbs ≠ 0)).mpr a2; omega
    · exact (Nat.le_log2 (by omega : d.natAbs ≠ 0)).mpr a1
  rw [this]
  have := h.1
  omega
/-- in bounds -/
abbrev Bd (r a x d : Int) : Prop := (x.natAbs : Int) * (2 ^ r.toNat - 1) ≤ a * d
/-- a remainder of a kind, and what it is worth -/
def Rm (kd : Str) (w : D) (x : Int) : Prop := (kd = "one" ∧ w = .int x) ∨ (kd = "pair" ∧ ∃ p q, w = .tuple [.int p, .int q] ∧ p + q = x)
theorem Rm.kd {kd : Str} {w : D} {x : Int} (h : Rm kd w x) : Kd kd := by
  rcases h with ⟨h, _⟩ | ⟨h, _⟩
  · exact .inl h
  · exact .inr h
/-! ### rounding -/
def rup (m : Str) (q r w : Int) : Bool := if decide (r = 0) || decide (m = "down") then false else if m = "up" then true else if m = "zero" then decide (q < 0) else decide (w < 2 * r) || (decide (2 * r = w) && decide (q % 2 = 1))
def rnd (m : Str) (t b : Int) : Int := if rup m (t / b) (t % b) b then t / b + 1 else t / b
end
end Q

namespace Q
open PySem
/-! ### Lh: drawn operands -/
theorem OkX.ite {G : Gx} {c : IE} {a b : List IS} {t : Tau} {k k' : Ds} {z : Bool} {Q : Fl → Tau → Ds → Prop} (h : tst (dl t c k (ev G t c k)) = .ok z k') (h1 : z = true → OkX (execs G a t k') Q) (h2 : z = false → OkX (execs G b t k') Q) : OkX (exec G (.ite c a b) t k) Q := by
  rw [yI, h]
  cases z with
  | true => exact h1 rfl
  | false => exact h2 rfl
section
variable {W : Wd} {fuel n : Nat} {k : Ds}
/-- a look of the law's -/
abbrev lk (t s : Int) (kd : Str) : D := .tuple [.int t, .int s, .str kd]
end
end Q

namespace Q
open PySem
/-! ### Li: common divisors, rounding, powers of 2 -/
section
variable {W : Wd} {fuel n : Nat} {k : Ds}
abbrev lc : IE := .cmp .NotEq (.var 1) (.con (.int 0))
abbrev lb : List IS := [.par [(0, false), (1, false)] [.var 1, .bop .Mod (.blt .int [.var 0]) (.var 1)]]
theorem two_le {e : Nat} {c : Nat} (h : e ≤ c) : (2 : Int) ^ e ≤ 2 ^ c := by
  have : ((2 ^ e : Nat) : Int) ≤ ((2 ^ c : Nat) : Int) := Int.ofNat_le.mpr (Nat.pow_le_pow_right (by decide) h)
  rwa [Int.natCast_pow, Int.natCast_pow] at this
end
end Q

namespace Q
open PySem
/-! ### Lj: fractions rounded to p bits -/
/-- a / b is at least 2 to the e -/
def GE (a b e : Int) : Prop := b * 2 ^ e.toNat ≤ a * 2 ^ (-e).toNat
instance (a b e : Int) : Decidable (GE a b e) := inferInstanceAs (Decidable (_ ≤ _))
theorem pw0 (u : Nat) : (0 : Int) < 2 ^ u := Int.pow_pos (by decide)
theorem ge_sub {a b : Int} (u v : Nat) : GE a b ((u : Int) - v) ↔ b * 2 ^ u ≤ a * 2 ^ v := by
  unfold GE
  by_cases c : u ≤ v
  · have e1 : ((u : Int) - v).toNat = 0 := by omega
    have e2 : (-((u : Int) - v)).toNat = v - u := by omega
    have e3 : (2 : Int) ^ v = 2 ^ (v - u) * 2 ^ u := by rw [← Int.pow_add]; congr 1; omega
    rw [e1, e2, e3, ← Int.mul_assoc, Int.pow_zero, Int.mul_one]
    exact ⟨fun z => Int.mul_le_mul_of_nonneg_right z (Int.le_of_lt (pw0 u)), fun z => Int.le_of_mul_le_mul_right z (pw0 u)⟩
  · have e1 : ((u : Int) - v).toNat = u - v := by omega
    have e2 : (-((u : Int) - v)).toNat = 0 := by omega
    have e3 : (2 : Int) ^ u = 2 ^ (u - v) * 2 ^ v := by rw [← Int.pow_add]; congr 1; omega
    rw [e1, e2, e3, ← Int.mul_assoc, Int.pow_zero, Int.mul_one]
    exact ⟨fun z => Int.mul_le_mul_of_nonneg_right z (Int.le_of_lt (pw0 v)), fun z => Int.le_of_mul_le_mul_right z (pw0 v)⟩
theorem ge_at {a b e : Int} {u v : Nat} (h : e = (u : Int) - v) : GE a b e ↔ b * 2 ^ u ≤ a * 2 ^ v := by rw [h]; exact ge_sub u v
theorem ge_mono {a b e f : Int} (hb : 0 ≤ b) (h : GE a b e) (hf : f ≤ e) : GE a b f := by
  have h1 := (ge_at (u := (e - f).toNat + f.toNat) (v := (-f).toNat) (by omega)).mp h
  refine (ge_at (u := f.toNat) (v := (-f).toNat) (by omega)).mpr (Int.le_trans (Int.mul_le_mul_of_nonneg_left ?_ hb) h1)
  exact two_le (by omega)
abbrev bl (a : Int) : Nat := Builtin.Int.intBits a
theorem bl_pos {a : Int} (h : 0 < a) : 1 ≤ bl a ∧ (2 : Int) ^ (bl a - 1) ≤ a ∧ a < 2 ^ bl a := by
  have e0 : (a == 0) = false := by simp; omega
  unfold bl Builtin.Int.intBits
  rw [e0]
  simp only [Bool.false_eq_true, if_false, Nat.add_sub_cancel]
  refine ⟨by omega, ?_, ?_⟩
  · have h1 : 2 ^ a.natAbs.log2 ≤ a.natAbs := Nat.log2_self_le (by omega)
    have h2 : ((2 ^ a.natAbs.log2 : Nat) : Int) ≤ (a.natAbs : Int) := Int.ofNat_le.mpr h1
    rw [Int.natCast_pow] at h2
    have h3 : (2 : Int) ^ a.natAbs.log2 ≤ (a.natAbs : Int) := h2
    omega
  · have h1 : a.natAbs < 2 ^ (a.natAbs.log2 + 1) := Nat.lt_log2_self
    have h2 : (a.natAbs : Int) < ((2 ^ (a.natAbs.log2 + 1) : Nat) : Int) := Int.ofNat_lt.mpr h1
    rw [Int.natCast_pow] at h2
    have h3 : (a.natAbs : Int) < (2 : Int) ^ (a.natAbs.log2 + 1) := h2
    omega
theorem bl_lo {a b : Int} (ha : 0 < a) (hb : 0 < b) : GE a b ((bl a : Int) - bl b - 1) := by
  obtain ⟨a0, a1, a2⟩ := bl_pos ha
  obtain ⟨b0, b1, b2⟩ := bl_pos hb
  refine (ge_at (u := bl a - 1) (v := bl b) (by omega)).mpr ?_
  rw [Int.mul_comm a]
  exact Int.mul_le_mul (by omega) a1 (Int.le_of_lt (pw0 _)) (Int.le_of_lt (pw0 _))
theorem bl_hi {a b : Int} (ha : 0 < a) (hb : 0 < b) : ¬ GE a b ((bl a : Int) - bl b + 1) := by
  obtain ⟨a0, a1, a2⟩ := bl_pos ha
  obtain ⟨b0, b1, b2⟩ := bl_pos hb
  intro h
  have h1 := (ge_at (u := bl a) (v := bl b - 1) (by omega)).mp h
  have h2 : a * 2 ^ (bl b - 1) < 2 ^ bl a * b := Int.lt_of_lt_of_le (Int.mul_lt_mul_of_pos_right a2 (pw0 _)) (Int.mul_le_mul_of_nonneg_left b1 (Int.le_of_lt (pw0 _)))
  rw [Int.mul_comm (2 ^ bl a) b] at h2
  omega
def eOf (p a b : Int) : Int := (bl a : Int) - bl b - p + if GE a b ((bl a : Int) - bl b) then 1 else 0
theorem eOf_lo {p a b : Int} (ha : 0 < a) (hb : 0 < b) : GE a b (eOf p a b + p - 1) := by
  unfold eOf
  split
  · rename_i h; exact ge_mono (Int.le_of_lt hb) h (by omega)
  · exact ge_mono (Int.le_of_lt hb) (bl_lo ha hb) (by omega)
theorem eOf_hi {p a b : Int} (ha : 0 < a) (hb : 0 < b) : ¬ GE a b (eOf p a b + p) := by
  unfold eOf
  split
  · intro h; exact bl_hi ha hb (ge_mono (Int.le_of_lt hb) h (by omega))
  · rename_i h; intro z; exact h (ge_mono (Int.le_of_lt hb) z (by omega))
abbrev hiO (t e : Int) : Int := t * 2 ^ (-e).toNat
abbrev loO (b e : Int) : Int := b * 2 ^ e.toNat
theorem loO_pos {b e : Int} (hb : 0 < b) : 0 < loO b e := Int.mul_pos hb (pw0 _)
theorem hl_lo {p t b : Int} (ht : t ≠ 0) (hb : 0 < b) (hp : 1 ≤ p) : loO b (eOf p t.natAbs b) ≤ (hiO t (eOf p t.natAbs b)).natAbs := by
  have h := eOf_lo (p := p) (show 0 < (t.natAbs : Int) by omega) hb
  have h1 : GE t.natAbs b (eOf p t.natAbs b) := ge_mono (Int.le_of_lt hb) h (by omega)
  have e : ((hiO t (eOf p t.natAbs b)).natAbs : Int) = t.natAbs * 2 ^ (-eOf p t.natAbs b).toNat := by
    unfold hiO
    rw [Int.natAbs_mul, Int.natAbs_pow, Int.natCast_mul, Int.natCast_pow]; rfl
  rw [e]; exact h1
theorem hl_hi {p t b : Int} (ht : t ≠ 0) (hb : 0 < b) (hp : 1 ≤ p) : ((hiO t (eOf p t.natAbs b)).natAbs : Int) < loO b (eOf p t.natAbs b) * 2 ^ p.toNat := by
  have h := eOf_hi (p := p) (show 0 < (t.natAbs : Int) by omega) hb
  have e : ((hiO t (eOf p t.natAbs b)).natAbs : Int) = t.natAbs * 2 ^ (-eOf p t.natAbs b).toNat := by
    unfold hiO
    rw [Int.natAbs_mul, Int.natAbs_pow, Int.natCast_mul, Int.natCast_pow]; rfl
  rw [e]
  apply Int.not_le.mp
  intro z
  refine h ((ge_at (u := (eOf p t.natAbs b).toNat + p.toNat) (v := (-eOf p t.natAbs b).toNat) (by omega)).mpr ?_)
  rw [Int.pow_add, ← Int.mul_assoc]
  exact z
theorem rnd_in {m : Str} {h l P : Int} (hl : 0 < l) (h1 : l ≤ h.natAbs) (h2 : (h.natAbs : Int) < l * P) : rnd m h l ≠ 0 ∧ -P ≤ rnd m h l ∧ rnd m h l ≤ P ∧ -P ≤ h / l ∧ h / l < P := by
  have e1 := Int.emod_add_mul_ediv h l
  have e2 := Int.emod_nonneg h (show l ≠ 0 by omega)
  have e3 := Int.emod_lt_of_pos h hl
  by_cases c : 0 ≤ h
  · have q1 : 1 ≤ h / l := (Int.le_ediv_iff_mul_le hl).mpr (by omega)
    have q2 : h / l < P := (Int.ediv_lt_iff_lt_mul hl).mpr (by rw [Int.mul_comm]; omega)
    unfold rnd
    split <;> omega
  · have q1 : h / l < 0 := Int.ediv_neg_of_neg_of_pos (by omega) hl
    have q2 : -P ≤ h / l := (Int.le_ediv_iff_mul_le hl).mpr (by rw [Int.neg_mul, Int.mul_comm]; omega)
    have hP : 0 < P := by
      apply Int.not_le.mp; intro z
      have := Int.mul_nonpos_of_nonneg_of_nonpos (Int.le_of_lt hl) z
      omega
    unfold rnd
    split
    · rename_i hr
      have : h % l ≠ 0 := fun z => by
        unfold rup at hr
        rw [z] at hr
        simp at hr
      have : h / l ≠ -1 := fun z => by
        rw [z] at e1
        omega
      omega
    · omega
def stp (x : Int × Int) : Int × Int := if x.1 % 2 = 0 then (x.1 / 2, x.2 + 1) else x
def itr : Nat → Int × Int → Int × Int
  | 0, x => x
  | n + 1, x => stp (itr n x)
theorem itr_succ : ∀ (n : Nat) (x : Int × Int), itr (n + 1) x = itr n (stp x)
  | 0, _ => rfl
  | n + 1, x => by show stp (itr (n + 1) x) = stp (itr n (stp x)); rw [itr_succ n x]
theorem itr_odd {x : Int × Int} (h : x.1 % 2 = 1) : ∀ n, itr n x = x
  | 0 => rfl
  | n + 1 => by show stp (itr n x) = x; rw [itr_odd h n]; unfold stp; rw [if_neg (by omega)]
theorem itr_reach : ∀ (p : Nat) (v e : Int), v ≠ 0 → -(2 ^ p) ≤ v → v ≤ 2 ^ p → (itr (p + 1) (v, e)).1 % 2 = 1
  | 0, v, e, h0, h1, h2 => by
    have : v = 1 ∨ v = -1 := by
      have a : (2 : Int) ^ 0 = 1 := by decide
      omega
    rw [itr_odd (by rcases this with rfl | rfl <;> rfl)]
    rcases this with rfl | rfl <;> rfl
  | p + 1, v, e, h0, h1, h2 => by
    by_cases c : v % 2 = 0
    · rw [itr_succ]
      have : stp (v, e) = (v / 2, e + 1) := by unfold stp; rw [if_pos c]
      rw [this]
      rw [Int.pow_succ] at h1 h2
      exact itr_reach p (v / 2) (e + 1) (by omega) (by omega) (by omega)
    · have : v % 2 = 1 := by omega
      rw [itr_odd this]; exact this
theorem itr_le : ∀ (n : Nat) (x : Int × Int) (P : Int), 0 ≤ P → -P ≤ x.1 → x.1 ≤ P → -P ≤ (itr n x).1 ∧ (itr n x).1 ≤ P
  | 0, _, _, _, h1, h2 => ⟨h1, h2⟩
  | n + 1, x, P, h0, h1, h2 => by
    have := itr_le n x P h0 h1 h2
    show -P ≤ (stp (itr n x)).1 ∧ (stp (itr n x)).1 ≤ P
    unfold stp
    split
    · show -P ≤ (itr n x).1 / 2 ∧ (itr n x).1 / 2 ≤ P
      omega
    · exact this
def bitsO (m : Str) (p t b : Int) : Int × Int := if t = 0 then (0, 0) else itr (p.toNat + 1) (rnd m (hiO t (eOf p t.natAbs b)) (loO b (eOf p t.natAbs b)), eOf p t.natAbs b)
theorem bits_odd {m : Str} {p t b : Int} (ht : t ≠ 0) (hb : 0 < b) (hp : 1 ≤ p) : (bitsO m p t b).1 % 2 = 1 ∧ -(2 ^ p.toNat) < (bitsO m p t b).1 ∧ (bitsO m p t b).1 < 2 ^ p.toNat := by
  obtain ⟨r0, r1, r2, _, _⟩ := rnd_in (m := m) (loO_pos (e := eOf p t.natAbs b) hb) (hl_lo ht hb hp) (hl_hi ht hb hp)
  unfold bitsO
  rw [if_neg ht]
  have h1 := itr_reach p.toNat _ (eOf p t.natAbs b) r0 r1 r2
  have h2 := itr_le (p.toNat + 1) (rnd m (hiO t (eOf p t.natAbs b)) (loO b (eOf p t.natAbs b)), eOf p t.natAbs b) (2 ^ p.toNat) (Int.le_of_lt (pw0 _)) r1 r2
  refine ⟨h1, ?_⟩
  have : (2 : Int) ^ p.toNat = 2 * 2 ^ (p.toNat - 1) := by
    rw [← Int.pow_succ']; congr 1; omega
  omega
end Q

namespace Q
open PySem
/-! ### Ll: three words for two, place by place -/
open Builtin
abbrev xr3 (u v z : Int) : Int := bitXor (bitXor u v) z
abbrev mj3 (u v z : Int) : Int := bitOr (bitOr (bitAnd u v) (bitAnd u z)) (bitAnd v z)
/-- within so many places -/
def Fit (N : Nat) (x : Int) : Prop := -(2 ^ N) ≤ x ∧ x < 2 ^ N
theorem Fit.zero {x : Int} (h : Fit 0 x) : x = 0 ∨ x = -1 := by
  have h1 := h.1
  have h2 := h.2
  rw [Int.pow_zero] at h1 h2
  omega
section
variable {W : Wd} {fuel n : Nat} {k : Ds}
abbrev rb : List IS := match i_law_reduced with | [_, .for_ _ _ b, _] => b | _ => []
abbrev rT (u v z p c pl : Int) (s6 s7 : Option Sl) : Tau := [some (.d (.int u)), some (.d (.int v)), some (.d (.int z)), some (.d (.int p)), some (.d (.int c)), some (.d (.int pl)), s6, s7]
end
end Q

namespace Q
open PySem
/-! ### Lm: machines and their runs -/
/-- a remainder: one word or two -/
inductive Rw where
  | one (x : Int)
  | two (p q : Int)
def Rw.d : Rw → D
  | .one x => .int x
  | .two p q => .tuple [.int p, .int q]
def Rw.kd : Rw → Str
  | .one _ => "one"
  | .two _ _ => "pair"
def Rw.v : Rw → Int
  | .one x => x
  | .two p q => p + q
def Rw.ws : Rw → List Int
  | .one x => [x]
  | .two p q => [p, q]
theorem Rw.of {kd : Str} {w : D} {x : Int} (h : Rm kd w x) : ∃ y : Rw, w = y.d ∧ kd = y.kd ∧ x = y.v := by
  rcases h with ⟨rfl, rfl⟩ | ⟨rfl, p, q, rfl, rfl⟩
  · exact ⟨.one x, rfl, rfl, rfl⟩
  · exact ⟨.two p q, rfl, rfl, rfl⟩
structure Mach where
  r : Int
  a : Int
  t : Int
  s : Int
  kd : Str
  rows : List (Int × List Int)
abbrev rowD (x : Int × List Int) : D := .tuple [.int x.1, tI x.2]
abbrev Mach.d (m : Mach) : D := .tuple [sch m.r m.a, lk m.t m.s m.kd, .tuple (m.rows.map rowD)]
structure RowOk (a : Int) (x : Int × List Int) : Prop where
  ne : x.2 ≠ []
  len : x.2.length ≤ 1000
  dig : ∀ q ∈ x.2, -a ≤ q ∧ q ≤ a
structure Mach.Ok (m : Mach) : Prop where
  sc : Sc m.r m.a
  kd : Kd m.kd
  t0 : 0 ≤ m.t
  t1 : m.t ≤ 6
  s0 : 0 ≤ m.s
  s1 : m.s ≤ 6
  len : (m.rows.length : Int) = 2 ^ m.s.toNat
  row : ∀ x ∈ m.rows, RowOk m.a x
section
variable {W : Wd} {fuel n : Nat} {k : Ds}
/-! ### cells -/
def iOf (m : Mach) (d u : Int) : Int := (d - 2 ^ u.toNat) * 2 ^ m.s.toNat / 2 ^ u.toNat
def yW (m : Mach) (u x : Int) : Int := x * 2 ^ m.r.toNat * 2 ^ m.t.toNat / 2 ^ u.toNat
def yOf (m : Mach) (u : Int) : Rw → Int
  | .one x => yW m u x
  | .two p q => yW m u p + yW m u q
def dig (m : Mach) (i y : Int) : Option Int := match m.rows[i.toNat]? with
  | some x => if 0 ≤ y - x.1 ∧ y - x.1 < x.2.length then x.2[(y - x.1).toNat]? else none
  | none => none
def optI : Option Int → D
  | some q => .int q
  | none => .none
/-! ### steps -/
def nx (R q d : Int) : Rw → Rw
  | .one x => .one (R * x - q * d)
  | .two p s => .two (xr3 (R * p) (R * s) (-(q * d))) (2 * mj3 (R * p) (R * s) (-(q * d)))
end
end Q

namespace Q
open PySem
/-! ### Ln: runs, the program's and the law's -/
/-- the digits and the remainders of a run -/
def runR (m : Mach) (d u : Int) : Nat → Rw → List Int × List Rw
  | 0, _ => ([], [])
  | k + 1, w => match dig m (iOf m d u) (yOf m u w) with
    | none => ([], [])
    | some q => (q :: (runR m d u k (nx (2 ^ m.r.toNat) q d w)).1, nx (2 ^ m.r.toNat) q d w :: (runR m d u k (nx (2 ^ m.r.toNat) q d w)).2)
section
variable {W : Wd} {fuel n : Nat} {k : Ds}
abbrev pb : List IS := match i_p_run_on_6ffc with | [_, _, .for_ _ _ b, _, _, _] => b | _ => []
abbrev pT (m : Mach) (w0 : Rw) (d u M : Int) (w : Rw) (ds rs : List D) (s8 s9 : Option Sl) : Tau := [some (.d m.d), some (.d (.tuple [w0.d, .int d, .int u])), some (.d (.int M)), some (.d w.d), some (.d (.int d)), some (.d (.int u)), some (.own ds), some (.own rs), s8, s9]
/-! ### the law's own -/
theorem Fit.mono {N M : Nat} {x : Int} (h : Fit N x) (l : N ≤ M) : Fit M x := by
  have := two_le l
  exact ⟨by have := h.1; omega, by have := h.2; omega⟩
def Rw.fit (N : Nat) : Rw → Prop
  | .one x => Fit N x
  | .two p q => Fit N p ∧ Fit N q
abbrev lrb : List IS := match i_law_run_9148 with | [_, _, .for_ _ _ b, _] => b | _ => []
/-! ### out of bounds -/
def exc (r a x d : Int) : Int := (x.natAbs : Int) * (2 ^ r.toNat - 1) - a * d
end
end Q

namespace Q
open PySem
/-! ### Lo: drawn machines, divisors, dividends -/
section
variable {W : Wd} {fuel n : Nat} {k : Ds}
end
end Q

namespace Q
open PySem
/-! ### Lp: drawn machines -/
section
variable {W : Wd} {fuel n : Nat} {k : Ds}
/-- where the rows begin -/
def Mach.Lo (m : Mach) (B : Int) : Prop := ∀ x ∈ m.rows, -B ≤ x.1 ∧ x.1 ≤ B
end
end Q

namespace Q
open PySem
/-! ### Lv: looks, any machines, run, estimate, selected; runs that are good -/
abbrev lkL (L : List (Int × Int)) : List D := L.map fun p => .tuple [.int p.1, .int p.2]
def lookPs : List (NestedKey × D) := match i_law_look_e7e2 with | .dicB _ ps :: _ => ps | _ => []
section
variable {W : Wd} {fuel n : Nat} {k : Ds}
/-! ### run, estimate, selected -/
def lastR : Rw → List Rw → Rw
  | w, [] => w
  | _, a :: l => lastR a l
end
/-- each remainder of a run: its kind, its size, and how it comes from the one ahead of it -/
def Good (m : Mach) (d : Int) (N : Nat) : List Rw → Prop
  | [] => True
  | [w] => w.kd = m.kd ∧ w.fit N
  | w :: w' :: r => w.kd = m.kd ∧ w.fit N ∧ (∃ q, -m.a ≤ q ∧ q ≤ m.a ∧ w'.v = 2 ^ m.r.toNat * w.v - q * d) ∧ Good m d N (w' :: r)
theorem Good.mem {m : Mach} {d : Int} {N : Nat} : ∀ {l : List Rw}, Good m d N l → ∀ w ∈ l, w.kd = m.kd ∧ w.fit N
  | [], _, _, h => by cases h
  | [w], h, x, hx => by rw [List.mem_singleton] at hx; subst hx; exact h
  | w :: w' :: r, h, x, hx => by
    rcases List.mem_cons.mp hx with rfl | hx
    · exact ⟨h.1, h.2.1⟩
    · exact Good.mem h.2.2.2 x hx
theorem Good.next {m : Mach} {d : Int} {N : Nat} : ∀ {l : List Rw} {i : Nat} {x y : Rw}, Good m d N l → l[i]? = some x → l[i + 1]? = some y → ∃ q, -m.a ≤ q ∧ q ≤ m.a ∧ y.v = 2 ^ m.r.toNat * x.v - q * d
  | [], i, x, y, _, h, _ => by simp at h
  | [w], i, x, y, _, _, h => by simp at h
  | w :: w' :: r, 0, x, y, h, h1, h2 => by
    simp at h1 h2
    subst h1 h2
    exact h.2.2.1
  | w :: w' :: r, i + 1, x, y, h, h1, h2 => Good.next (l := w' :: r) (i := i) h.2.2.2 (by simpa using h1) (by simpa using h2)
section
variable {W : Wd} {fuel n : Nat} {k : Ds}
end
end Q

namespace Q
open PySem
/-! ### Lq: right machines -/
def byd (l T F w y : Int) : Bool := decide (l * T * (if 0 < l then F else F + 1) < y * w)
def stB (R a T S g i y q : Int) : Bool := !(decide (q < a) && byd (q * (R - 1) + a) T (S + i) ((R - 1) * S) (y + g)) && (decide (q = -a) || !byd (a - q * (R - 1)) T (S + i) ((R - 1) * S) (-y))
def topOf (R a T S i : Int) : Int := (R * a * T * (S + i + 1) - 1) / ((R - 1) * S)
def gOf (kd : Str) : Int := if kd = "one" then 1 else 2
/-- a right machine -/
def Right (m : Mach) : Prop := ∀ i y : Int, 0 ≤ i → i < 2 ^ m.s.toNat → -topOf (2 ^ m.r.toNat) m.a (2 ^ m.t.toNat) (2 ^ m.s.toNat) i - gOf m.kd ≤ y → y ≤ topOf (2 ^ m.r.toNat) m.a (2 ^ m.t.toNat) (2 ^ m.s.toNat) i →
  ∃ q, dig m i y = some q ∧ stB (2 ^ m.r.toNat) m.a (2 ^ m.t.toNat) (2 ^ m.s.toNat) (gOf m.kd) i y q = true
end Q

namespace Q
open PySem
/-! ### Ly: drawn machines that are right -/
def midOf (T S g i y : Int) : Int := (2 * (y + (y + g)) * S + T * (2 * (S + i) + 1)) / (2 * T * (2 * (S + i) + 1))
def lowB (R a T S i y q : Int) : Bool := decide (q = -a) || decide ((q * (R - 1) - a) * (if 0 ≤ q * (R - 1) - a then S + i + 1 else S + i + 0) * T ≤ y * (R - 1) * S)
def highB (R a T S g i y q : Int) : Bool := decide (q = a) || decide ((y + g) * (R - 1) * S ≤ (q * (R - 1) + a) * (if q * (R - 1) + a < 0 then S + i + 1 else S + i + 0) * T)
def okB (R a T S g i y : Int) : Bool := (((List.range 3).map fun j : Nat => midOf T S g i y - 1 + (j : Int)).any fun c => decide (-a ≤ c) && decide (c ≤ a) && stB R a T S g i y c) || stB R a T S g i y (if (if midOf T S g i y < a then midOf T S g i y else a) > -a then (if midOf T S g i y < a then midOf T S g i y else a) else -a)
/-- a row drawn for the cells of a divisor cell -/
structure RowD (R a T S g : Int) (c : Nat) (x : Int × List Int) : Prop where
  lo : x.1 ≤ -topOf R a T S (c : Int) - 2
  hi : topOf R a T S (c : Int) + 1 ≤ x.1 + (x.2.length : Int)
  at_ : ∀ (p : Nat) (z : Int), x.2[p]? = some z → okB R a T S g (c : Int) (x.1 + (p : Int)) = true → stB R a T S g (c : Int) (x.1 + (p : Int)) z = true
section
variable {W : Wd} {fuel n : Nat} {k : Ds}
end
end Q

namespace Q
open PySem
/-! ### Lk: to_bits, its law's own reckoning -/
section
variable {W : Wd} {fuel n : Nat} {k : Ds}
abbrev bp (x : Int × Int) : D := .tuple [.int x.1, .int x.2]
abbrev oc : IE := .cmp .Eq (.bop .Mod (.var 0) (.con (.int 2))) (.con (.int 0))
abbrev ob : List IS := [.par [(0, false), (1, false)] [.bop .FloorDiv (.var 0) (.con (.int 2)), .bop .Add (.var 1) (.con (.int 1))]]
/-- the bounds under which all is reckoned -/
structure Fr (p t b : Int) : Prop where
  p0 : 1 ≤ p
  p1 : p ≤ 24
  b0 : 0 < b
  b1 : b ≤ 2 ^ 30
  t1 : t.natAbs ≤ 2 ^ 30
theorem Fr.bl {a : Int} (h : a.natAbs ≤ 2 ^ 30) : bl a ≤ 31 := by
  unfold Q.bl Builtin.Int.intBits
  split
  · omega
  · rename_i c
    have c0 : a ≠ 0 := by simpa using c
    have := (Nat.log2_lt (n := a.natAbs) (k := 31) (by omega)).mpr (by omega)
    omega
theorem Fr.e {p t b : Int} (h : Fr p t b) : -60 ≤ eOf p t.natAbs b ∧ eOf p t.natAbs b ≤ 60 := by
  have h1 := Fr.bl (a := (t.natAbs : Int)) (by have := h.t1; omega)
  have h2 := Fr.bl (a := b) (by have := h.b1; have := h.b0; omega)
  have := h.p0
  have := h.p1
  unfold eOf
  split <;> omega
theorem Fr.pw {e : Int} (h : e ≤ 60) : ((2 : Int) ^ e.toNat).natAbs < 2 ^ 64 := by
  rw [Int.natAbs_pow]
  exact Nat.lt_of_le_of_lt (Nat.pow_le_pow_right (by decide) (show e.toNat ≤ 60 by omega)) (by decide)
abbrev wc : IE := .call 391 [.blt .abs [.var 0], .var 1, .var 4, .call 0 [.var 2]]
theorem itr_e : ∀ (n : Nat) (x : Int × Int), x.2 ≤ (itr n x).2 ∧ (itr n x).2 ≤ x.2 + n
  | 0, x => ⟨Int.le_refl _, by show x.2 ≤ x.2 + ((0 : Nat) : Int); omega⟩
  | n + 1, x => by
    have := itr_e n x
    show x.2 ≤ (stp (itr n x)).2 ∧ (stp (itr n x)).2 ≤ x.2 + ((n + 1 : Nat) : Int)
    unfold stp
    split
    · show x.2 ≤ (itr n x).2 + 1 ∧ (itr n x).2 + 1 ≤ _
      omega
    · omega
theorem Fr.out {p t b : Int} {m : Str} (h : Fr p t b) : (bitsO m p t b).1.natAbs ≤ 16777216 ∧ -60 ≤ (bitsO m p t b).2 ∧ (bitsO m p t b).2 ≤ 85 := by
  have p1 := h.p1
  have p0 := h.p0
  by_cases ht : t = 0
  · have e : bitsO m p t b = (0, 0) := by unfold bitsO; rw [if_pos ht]
    rw [e]; exact ⟨by decide, by decide, by decide⟩
  · obtain ⟨_, o1, o2⟩ := bits_odd (m := m) ht h.b0 h.p0
    have pq : ((2 : Int) ^ p.toNat) ≤ 16777216 := Int.le_trans (two_le (show p.toNat ≤ 24 by omega)) (by decide)
    obtain ⟨e0, e1⟩ := h.e
    have := itr_e (p.toNat + 1) (rnd m (hiO t (eOf p t.natAbs b)) (loO b (eOf p t.natAbs b)), eOf p t.natAbs b)
    have bo : bitsO m p t b = itr (p.toNat + 1) (rnd m (hiO t (eOf p t.natAbs b)) (loO b (eOf p t.natAbs b)), eOf p t.natAbs b) := by unfold bitsO; rw [if_neg ht]
    rw [← bo] at this
    omega
end
end Q

namespace Q
open PySem
/-! ### Lw: told cells; scaled operands -/
/-- a remainder multiplied -/
def Rw.sc (P : Int) : Rw → Rw
  | .one x => .one (x * P)
  | .two p q => .two (p * P) (q * P)
section
variable {W : Wd} {fuel n : Nat} {k : Ds}
end
end Q

namespace Q
open PySem
/-! ### Lx: what laws ask of any value; runs: values, early ends, bounds -/
def isI : D → Bool
  | .int _ => true
  | _ => false
def isT (m : Int) : D → Bool
  | .tuple xs => decide ((xs.length : Int) = m)
  | _ => false
section
variable {W : Wd} {fuel n : Nat} {k : Ds}
theorem s_lint [E_law_is_int_7e02 W] (d : D) : W.ph fuel (n+1) 13 [.d d] k = .ok (.d (.bool (isI d))) k := by
  rw [u_law_is_int_7e02]
  cases d <;> simp only [zA, zB, zC, zD, zE, zF, zG, zH, zI, zJ, zK, zL, zM, zN, zO, zP, zQ, zR, zS, zT, zU, zV, zW, zX, zY, zZ, za, zb, zc, zd, ze, zf, zg, zh, zi, zj, zk, zl, zm, mkR_ok, zn, eq_self, Option.isNone_none, List.zip_cons_cons, List.zip_nil_left, zo, zp, zq, zr, Bool.true_or, Bool.or_true, zt, zu, zv, zw, zx, zy, zz, yA, yB, yC, yD, yE, yF, yG, yH, yI, yJ, yK, yL, yM, yN, yO, yP, evs, evds, evx, evI, evIs, sets, dl, lend, varT, data, dat, opt, tst, truD, yQ, yR, yS, yT, List.getD_cons_zero, List.getD_cons_succ, List.set_cons_zero, List.set_cons_succ, List.map_cons, List.map_nil, Option.map_some, Option.bind_some, yU, yV, yX, yY, yZ, ya, yc, yd, ye, yf, yg, yh, yi, yj, yk, yl, ym, yn, yo, yp, yq, yr, yt, yu, yw, yx, yy, yz, qA, qB, qC, qD, qE, qF, qG, qH, qI, qJ, qK, qL, qM, qN, qO, qP, qQ, qR, qS, qT, qU, qV, bltD, idxD, negD, itemsD, isiD, if_true, Bool.false_eq_true, if_false, Bool.not_true, Bool.not_false, List.length_cons, List.length_nil, Nat.zero_add, Nat.reduceAdd, lk0, lk1, lk2, lk3, lk4, lk5, lk6, lk7, lk8, lk9, lk10, lk11, lk12, lk13, lk14, lk15, lk16, lk17, lk18, lk19, lk20, lk21, lk22, lk23, lk24, lk25, lk26, lk27, lk28, lk29, lk30, lk31, lk32, ix0, ix1, ix2, Int.reduceLT, Int.reduceLE, eq_self, decide_true, decide_false, i_law_is_int_7e02, isI, isiD]
theorem s_ltup [E_law_is_tuple W] (d : D) (m : Int) : W.ph fuel (n+1) 14 [.d d, .d (.int m)] k = .ok (.d (.bool (isT m d))) k := by
  rw [u_law_is_tuple]
  cases d <;> simp only [zA, zB, zC, zD, zE, zF, zG, zH, zI, zJ, zK, zL, zM, zN, zO, zP, zQ, zR, zS, zT, zU, zV, zW, zX, zY, zZ, za, zb, zc, zd, ze, zf, zg, zh, zi, zj, zk, zl, zm, mkR_ok, zn, eq_self, Option.isNone_none, List.zip_cons_cons, List.zip_nil_left, zo, zp, zq, zr, Bool.true_or, Bool.or_true, zt, zu, zv, zw, zx, zy, zz, yA, yB, yC, yD, yE, yF, yG, yH, yI, yJ, yK, yL, yM, yN, yO, yP, evs, evds, evx, evI, evIs, sets, dl, lend, varT, data, dat, opt, tst, truD, yQ, yR, yS, yT, List.getD_cons_zero, List.getD_cons_succ, List.set_cons_zero, List.set_cons_succ, List.map_cons, List.map_nil, Option.map_some, Option.bind_some, yU, yV, yX, yY, yZ, ya, yc, yd, ye, yf, yg, yh, yi, yj, yk, yl, ym, yn, yo, yp, yq, yr, yt, yu, yw, yx, yy, yz, qA, qB, qC, qD, qE, qF, qG, qH, qI, qJ, qK, qL, qM, qN, qO, qP, qQ, qR, qS, qT, qU, qV, bltD, idxD, negD, itemsD, isiD, if_true, Bool.false_eq_true, if_false, Bool.not_true, Bool.not_false, List.length_cons, List.length_nil, Nat.zero_add, Nat.reduceAdd, lk0, lk1, lk2, lk3, lk4, lk5, lk6, lk7, lk8, lk9, lk10, lk11, lk12, lk13, lk14, lk15, lk16, lk17, lk18, lk19, lk20, lk21, lk22, lk23, lk24, lk25, lk26, lk27, lk28, lk29, lk30, lk31, lk32, ix0, ix1, ix2, Int.reduceLT, Int.reduceLE, eq_self, decide_true, decide_false, i_law_is_tuple, isT, isiD]
end
end Q

namespace Q
namespace K00
open PySem
section
variable {W : Wd} {fuel n : Nat} {k k' : Ds}
def schB : D → Bool
  | .tuple [.int r, .int a] => decide (1 ≤ r) && (decide (r ≤ 3) && (decide (2 ^ (r - 1).toNat ≤ a) && decide (a < 2 ^ r.toNat)))
  | _ => false
theorem s_isint [E_p_is_integer W] (d : D) : W.ph fuel (n+1) 1 [.d d] k = .ok (.d (.bool (isI d))) k := by
  rw [u_p_is_integer]
  cases d <;> simp only [zA, zB, zC, zD, zE, zF, zG, zH, zI, zJ, zK, zL, zM, zN, zO, zP, zQ, zR, zS, zT, zU, zV, zW, zX, zY, zZ, za, zb, zc, zd, ze, zf, zg, zh, zi, zj, zk, zl, zm, mkR_ok, zn, eq_self, Option.isNone_none, List.zip_cons_cons, List.zip_nil_left, zo, zp, zq, zr, Bool.true_or, Bool.or_true, zt, zu, zv, zw, zx, zy, zz, yA, yB, yC, yD, yE, yF, yG, yH, yI, yJ, yK, yL, yM, yN, yO, yP, evs, evds, evx, evI, evIs, sets, dl, lend, varT, data, dat, opt, tst, truD, yQ, yR, yS, yT, List.getD_cons_zero, List.getD_cons_succ, List.set_cons_zero, List.set_cons_succ, List.map_cons, List.map_nil, Option.map_some, Option.bind_some, yU, yV, yX, yY, yZ, ya, yc, yd, ye, yf, yg, yh, yi, yj, yk, yl, ym, yn, yo, yp, yq, yr, yt, yu, yw, yx, yy, yz, qA, qB, qC, qD, qE, qF, qG, qH, qI, qJ, qK, qL, qM, qN, qO, qP, qQ, qR, qS, qT, qU, qV, bltD, idxD, negD, itemsD, isiD, if_true, Bool.false_eq_true, if_false, Bool.not_true, Bool.not_false, List.length_cons, List.length_nil, Nat.zero_add, Nat.reduceAdd, lk0, lk1, lk2, lk3, lk4, lk5, lk6, lk7, lk8, lk9, lk10, lk11, lk12, lk13, lk14, lk15, lk16, lk17, lk18, lk19, lk20, lk21, lk22, lk23, lk24, lk25, lk26, lk27, lk28, lk29, lk30, lk31, lk32, ix0, ix1, ix2, Int.reduceLT, Int.reduceLE, eq_self, decide_true, decide_false, i_p_is_integer, isI, isiD]
theorem s_tupa [E_p_is_tuple W] (d : D) (m : Int) : W.ph fuel (n+1) 2 [.d d, .d (.int m)] k = .ok (.d (.bool (isT m d))) k := by
  rw [u_p_is_tuple]
  cases d <;> simp only [zA, zB, zC, zD, zE, zF, zG, zH, zI, zJ, zK, zL, zM, zN, zO, zP, zQ, zR, zS, zT, zU, zV, zW, zX, zY, zZ, za, zb, zc, zd, ze, zf, zg, zh, zi, zj, zk, zl, zm, mkR_ok, zn, eq_self, Option.isNone_none, List.zip_cons_cons, List.zip_nil_left, zo, zp, zq, zr, Bool.true_or, Bool.or_true, zt, zu, zv, zw, zx, zy, zz, yA, yB, yC, yD, yE, yF, yG, yH, yI, yJ, yK, yL, yM, yN, yO, yP, evs, evds, evx, evI, evIs, sets, dl, lend, varT, data, dat, opt, tst, truD, yQ, yR, yS, yT, List.getD_cons_zero, List.getD_cons_succ, List.set_cons_zero, List.set_cons_succ, List.map_cons, List.map_nil, Option.map_some, Option.bind_some, yU, yV, yX, yY, yZ, ya, yc, yd, ye, yf, yg, yh, yi, yj, yk, yl, ym, yn, yo, yp, yq, yr, yt, yu, yw, yx, yy, yz, qA, qB, qC, qD, qE, qF, qG, qH, qI, qJ, qK, qL, qM, qN, qO, qP, qQ, qR, qS, qT, qU, qV, bltD, idxD, negD, itemsD, isiD, if_true, Bool.false_eq_true, if_false, Bool.not_true, Bool.not_false, List.length_cons, List.length_nil, Nat.zero_add, Nat.reduceAdd, lk0, lk1, lk2, lk3, lk4, lk5, lk6, lk7, lk8, lk9, lk10, lk11, lk12, lk13, lk14, lk15, lk16, lk17, lk18, lk19, lk20, lk21, lk22, lk23, lk24, lk25, lk26, lk27, lk28, lk29, lk30, lk31, lk32, ix0, ix1, ix2, Int.reduceLT, Int.reduceLE, eq_self, decide_true, decide_false, i_p_is_tuple, isT, isiD]
theorem two_of {d : D} (h : isT 2 d = true) : ∃ x y, d = .tuple [x, y] := by
  cases d with
  | tuple xs =>
    have h := of_decide_eq_true h
    match xs, h with
    | [x, y], _ => exact ⟨x, y, rfl⟩
    | [], h => simp at h
    | [_], h => simp at h
    | _ :: _ :: _ :: _, h => simp at h; omega
  | _ => cases h
theorem int_of {d : D} (h : isI d = true) : ∃ i, d = .int i := by
  cases d with
  | int i => exact ⟨i, rfl⟩
  | _ => cases h
theorem schB_no1 {d : D} (h : isT 2 d = false) : schB d = false := by
  cases d with
  | tuple xs =>
    have h := of_decide_eq_false h
    match xs, h with
    | [x, y], h => simp at h
    | [], _ => rfl
    | [x], _ => cases x <;> rfl
    | x :: y :: z :: r, _ =>
      unfold schB
      split
      · rename_i h; cases h
      · rfl
  | _ => rfl
theorem schB_ii {r a : Int} : schB (.tuple [.int r, .int a]) = (decide (1 ≤ r) && (decide (r ≤ 3) && (decide (2 ^ (r - 1).toNat ≤ a) && decide (a < 2 ^ r.toNat)))) := rfl
theorem schB_no2 {x y : D} (h : isI x = false) : schB (.tuple [x, y]) = false := by
  cases x <;> first | rfl | cases h
theorem schB_no3 {x y : D} (h : isI y = false) : schB (.tuple [x, y]) = false := by
  cases x <;> cases y <;> first | rfl | cases h
theorem s_schv [E_p_two W] [E_p_is_integer W] [E_p_is_tuple W] [E_p_is_scheme_value W] (d : D) : W.ph fuel (n+2) 3 [.d d] k = .ok (.d (.bool (schB d))) k := by
  have e1 := s_tupa (W := W) (fuel := fuel) (n := n) (k := k) d 2
  rw [u_p_is_scheme_value]
  cases h : isT 2 d with
  | false =>
    rw [h] at e1
    rw [schB_no1 h]
    simp only [zA, zB, zC, zD, zE, zF, zG, zH, zI, zJ, zK, zL, zM, zN, zO, zP, zQ, zR, zS, zT, zU, zV, zW, zX, zY, zZ, za, zb, zc, zd, ze, zf, zg, zh, zi, zj, zk, zl, zm, mkR_ok, zn, eq_self, Option.isNone_none, List.zip_cons_cons, List.zip_nil_left, zo, zp, zq, zr, Bool.true_or, Bool.or_true, zt, zu, zv, zw, zx, zy, zz, yA, yB, yC, yD, yE, yF, yG, yH, yI, yJ, yK, yL, yM, yN, yO, yP, evs, evds, evx, evI, evIs, sets, dl, lend, varT, data, dat, opt, tst, truD, yQ, yR, yS, yT, List.getD_cons_zero, List.getD_cons_succ, List.set_cons_zero, List.set_cons_succ, List.map_cons, List.map_nil, Option.map_some, Option.bind_some, yU, yV, yX, yY, yZ, ya, yc, yd, ye, yf, yg, yh, yi, yj, yk, yl, ym, yn, yo, yp, yq, yr, yt, yu, yw, yx, yy, yz, qA, qB, qC, qD, qE, qF, qG, qH, qI, qJ, qK, qL, qM, qN, qO, qP, qQ, qR, qS, qT, qU, qV, bltD, idxD, negD, itemsD, isiD, if_true, Bool.false_eq_true, if_false, Bool.not_true, Bool.not_false, List.length_cons, List.length_nil, Nat.zero_add, Nat.reduceAdd, lk0, lk1, lk2, lk3, lk4, lk5, lk6, lk7, lk8, lk9, lk10, lk11, lk12, lk13, lk14, lk15, lk16, lk17, lk18, lk19, lk20, lk21, lk22, lk23, lk24, lk25, lk26, lk27, lk28, lk29, lk30, lk31, lk32, ix0, ix1, ix2, Int.reduceLT, Int.reduceLE, eq_self, decide_true, decide_false, i_p_is_scheme_value, e1]
  | true =>
    obtain ⟨x, y, rfl⟩ := two_of h
    rw [h] at e1
    have e2 := s_isint (W := W) (fuel := fuel) (n := n) (k := k) x
    have e3 := s_isint (W := W) (fuel := fuel) (n := n) (k := k) y
    cases hx : isI x with
    | false =>
      rw [hx] at e2
      rw [schB_no2 hx]
      simp only [zA, zB, zC, zD, zE, zF, zG, zH, zI, zJ, zK, zL, zM, zN, zO, zP, zQ, zR, zS, zT, zU, zV, zW, zX, zY, zZ, za, zb, zc, zd, ze, zf, zg, zh, zi, zj, zk, zl, zm, mkR_ok, zn, eq_self, Option.isNone_none, List.zip_cons_cons, List.zip_nil_left, zo, zp, zq, zr, Bool.true_or, Bool.or_true, zt, zu, zv, zw, zx, zy, zz, yA, yB, yC, yD, yE, yF, yG, yH, yI, yJ, yK, yL, yM, yN, yO, yP, evs, evds, evx, evI, evIs, sets, dl, lend, varT, data, dat, opt, tst, truD, yQ, yR, yS, yT, List.getD_cons_zero, List.getD_cons_succ, List.set_cons_zero, List.set_cons_succ, List.map_cons, List.map_nil, Option.map_some, Option.bind_some, yU, yV, yX, yY, yZ, ya, yc, yd, ye, yf, yg, yh, yi, yj, yk, yl, ym, yn, yo, yp, yq, yr, yt, yu, yw, yx, yy, yz, qA, qB, qC, qD, qE, qF, qG, qH, qI, qJ, qK, qL, qM, qN, qO, qP, qQ, qR, qS, qT, qU, qV, bltD, idxD, negD, itemsD, isiD, if_true, Bool.false_eq_true, if_false, Bool.not_true, Bool.not_false, List.length_cons, List.length_nil, Nat.zero_add, Nat.reduceAdd, lk0, lk1, lk2, lk3, lk4, lk5, lk6, lk7, lk8, lk9, lk10, lk11, lk12, lk13, lk14, lk15, lk16, lk17, lk18, lk19, lk20, lk21, lk22, lk23, lk24, lk25, lk26, lk27, lk28, lk29, lk30, lk31, lk32, ix0, ix1, ix2, Int.reduceLT, Int.reduceLE, eq_self, decide_true, decide_false, i_p_is_scheme_value, e1, e2]
    | true =>
      cases hy : isI y with
      | false =>
        rw [hx] at e2
        rw [hy] at e3
        rw [schB_no3 hy]
        simp only [zA, zB, zC, zD, zE, zF, zG, zH, zI, zJ, zK, zL, zM, zN, zO, zP, zQ, zR, zS, zT, zU, zV, zW, zX, zY, zZ, za, zb, zc, zd, ze, zf, zg, zh, zi, zj, zk, zl, zm, mkR_ok, zn, eq_self, Option.isNone_none, List.zip_cons_cons, List.zip_nil_left, zo, zp, zq, zr, Bool.true_or, Bool.or_true, zt, zu, zv, zw, zx, zy, zz, yA, yB, yC, yD, yE, yF, yG, yH, yI, yJ, yK, yL, yM, yN, yO, yP, evs, evds, evx, evI, evIs, sets, dl, lend, varT, data, dat, opt, tst, truD, yQ, yR, yS, yT, List.getD_cons_zero, List.getD_cons_succ, List.set_cons_zero, List.set_cons_succ, List.map_cons, List.map_nil, Option.map_some, Option.bind_some, yU, yV, yX, yY, yZ, ya, yc, yd, ye, yf, yg, yh, yi, yj, yk, yl, ym, yn, yo, yp, yq, yr, yt, yu, yw, yx, yy, yz, qA, qB, qC, qD, qE, qF, qG, qH, qI, qJ, qK, qL, qM, qN, qO, qP, qQ, qR, qS, qT, qU, qV, bltD, idxD, negD, itemsD, isiD, if_true, Bool.false_eq_true, if_false, Bool.not_true, Bool.not_false, List.length_cons, List.length_nil, Nat.zero_add, Nat.reduceAdd, lk0, lk1, lk2, lk3, lk4, lk5, lk6, lk7, lk8, lk9, lk10, lk11, lk12, lk13, lk14, lk15, lk16, lk17, lk18, lk19, lk20, lk21, lk22, lk23, lk24, lk25, lk26, lk27, lk28, lk29, lk30, lk31, lk32, ix0, ix1, ix2, Int.reduceLT, Int.reduceLE, eq_self, decide_true, decide_false, i_p_is_scheme_value, e1, e2, e3]
      | true =>
        obtain ⟨r, rfl⟩ := int_of hx
        obtain ⟨a, rfl⟩ := int_of hy
        rw [hx] at e2
        rw [hy] at e3
        rw [schB_ii]
        by_cases c1 : 1 ≤ r
        · by_cases c2 : r ≤ 3
          · have e4 := s_two (W := W) (fuel := fuel) (n := n) (k := k) (i := r - 1) (by omega) (by omega)
            have e5 := s_two (W := W) (fuel := fuel) (n := n) (k := k) (i := r) (by omega) (by omega)
            rw [decide_eq_true c1, decide_eq_true c2, Bool.true_and, Bool.true_and]
            by_cases c3 : 2 ^ (r - 1).toNat ≤ a
            · rw [decide_eq_true c3, Bool.true_and]
              simp only [zA, zB, zC, zD, zE, zF, zG, zH, zI, zJ, zK, zL, zM, zN, zO, zP, zQ, zR, zS, zT, zU, zV, zW, zX, zY, zZ, za, zb, zc, zd, ze, zf, zg, zh, zi, zj, zk, zl, zm, mkR_ok, zn, eq_self, Option.isNone_none, List.zip_cons_cons, List.zip_nil_left, zo, zp, zq, zr, Bool.true_or, Bool.or_true, zt, zu, zv, zw, zx, zy, zz, yA, yB, yC, yD, yE, yF, yG, yH, yI, yJ, yK, yL, yM, yN, yO, yP, evs, evds, evx, evI, evIs, sets, dl, lend, varT, data, dat, opt, tst, truD, yQ, yR, yS, yT, List.getD_cons_zero, List.getD_cons_succ, List.set_cons_zero, List.set_cons_succ, List.map_cons, List.map_nil, Option.map_some, Option.bind_some, yU, yV, yX, yY, yZ, ya, yc, yd, ye, yf, yg, yh, yi, yj, yk, yl, ym, yn, yo, yp, yq, yr, yt, yu, yw, yx, yy, yz, qA, qB, qC, qD, qE, qF, qG, qH, qI, qJ, qK, qL, qM, qN, qO, qP, qQ, qR, qS, qT, qU, qV, bltD, idxD, negD, itemsD, isiD, if_true, Bool.false_eq_true, if_false, Bool.not_true, Bool.not_false, List.length_cons, List.length_nil, Nat.zero_add, Nat.reduceAdd, lk0, lk1, lk2, lk3, lk4, lk5, lk6, lk7, lk8, lk9, lk10, lk11, lk12, lk13, lk14, lk15, lk16, lk17, lk18, lk19, lk20, lk21, lk22, lk23, lk24, lk25, lk26, lk27, lk28, lk29, lk30, lk31, lk32, ix0, ix1, ix2, Int.reduceLT, Int.reduceLE, eq_self, decide_true, decide_false, i_p_is_scheme_value, e1, e2, e3, decide_eq_true c1, decide_eq_true c2, e4, e5, decide_eq_true c3]
            · rw [decide_eq_false c3, Bool.false_and]
              simp only [zA, zB, zC, zD, zE, zF, zG, zH, zI, zJ, zK, zL, zM, zN, zO, zP, zQ, zR, zS, zT, zU, zV, zW, zX, zY, zZ, za, zb, zc, zd, ze, zf, zg, zh, zi, zj, zk, zl, zm, mkR_ok, zn, eq_self, Option.isNone_none, List.zip_cons_cons, List.zip_nil_left, zo, zp, zq, zr, Bool.true_or, Bool.or_true, zt, zu, zv, zw, zx, zy, zz, yA, yB, yC, yD, yE, yF, yG, yH, yI, yJ, yK, yL, yM, yN, yO, yP, evs, evds, evx, evI, evIs, sets, dl, lend, varT, data, dat, opt, tst, truD, yQ, yR, yS, yT, List.getD_cons_zero, List.getD_cons_succ, List.set_cons_zero, List.set_cons_succ, List.map_cons, List.map_nil, Option.map_some, Option.bind_some, yU, yV, yX, yY, yZ, ya, yc, yd, ye, yf, yg, yh, yi, yj, yk, yl, ym, yn, yo, yp, yq, yr, yt, yu, yw, yx, yy, yz, qA, qB, qC, qD, qE, qF, qG, qH, qI, qJ, qK, qL, qM, qN, qO, qP, qQ, qR, qS, qT, qU, qV, bltD, idxD, negD, itemsD, isiD, if_true, Bool.false_eq_true, if_false, Bool.not_true, Bool.not_false, List.length_cons, List.length_nil, Nat.zero_add, Nat.reduceAdd, lk0, lk1, lk2, lk3, lk4, lk5, lk6, lk7, lk8, lk9, lk10, lk11, lk12, lk13, lk14, lk15, lk16, lk17, lk18, lk19, lk20, lk21, lk22, lk23, lk24, lk25, lk26, lk27, lk28, lk29, lk30, lk31, lk32, ix0, ix1, ix2, Int.reduceLT, Int.reduceLE, eq_self, decide_true, decide_false, i_p_is_scheme_value, e1, e2, e3, decide_eq_true c1, decide_eq_true c2, e4, e5, decide_eq_false c3]
          · rw [decide_eq_false c2, Bool.false_and, Bool.and_false]
            simp only [zA, zB, zC, zD, zE, zF, zG, zH, zI, zJ, zK, zL, zM, zN, zO, zP, zQ, zR, zS, zT, zU, zV, zW, zX, zY, zZ, za, zb, zc, zd, ze, zf, zg, zh, zi, zj, zk, zl, zm, mkR_ok, zn, eq_self, Option.isNone_none, List.zip_cons_cons, List.zip_nil_left, zo, zp, zq, zr, Bool.true_or, Bool.or_true, zt, zu, zv, zw, zx, zy, zz, yA, yB, yC, yD, yE, yF, yG, yH, yI, yJ, yK, yL, yM, yN, yO, yP, evs, evds, evx, evI, evIs, sets, dl, lend, varT, data, dat, opt, tst, truD, yQ, yR, yS, yT, List.getD_cons_zero, List.getD_cons_succ, List.set_cons_zero, List.set_cons_succ, List.map_cons, List.map_nil, Option.map_some, Option.bind_some, yU, yV, yX, yY, yZ, ya, yc, yd, ye, yf, yg, yh, yi, yj, yk, yl, ym, yn, yo, yp, yq, yr, yt, yu, yw, yx, yy, yz, qA, qB, qC, qD, qE, qF, qG, qH, qI, qJ, qK, qL, qM, qN, qO, qP, qQ, qR, qS, qT, qU, qV, bltD, idxD, negD, itemsD, isiD, if_true, Bool.false_eq_true, if_false, Bool.not_true, Bool.not_false, List.length_cons, List.length_nil, Nat.zero_add, Nat.reduceAdd, lk0, lk1, lk2, lk3, lk4, lk5, lk6, lk7, lk8, lk9, lk10, lk11, lk12, lk13, lk14, lk15, lk16, lk17, lk18, lk19, lk20, lk21, lk22, lk23, lk24, lk25, lk26, lk27, lk28, lk29, lk30, lk31, lk32, ix0, ix1, ix2, Int.reduceLT, Int.reduceLE, eq_self, decide_true, decide_false, i_p_is_scheme_value, e1, e2, e3, decide_eq_true c1, decide_eq_false c2]
        · rw [decide_eq_false c1, Bool.false_and]
          simp only [zA, zB, zC, zD, zE, zF, zG, zH, zI, zJ, zK, zL, zM, zN, zO, zP, zQ, zR, zS, zT, zU, zV, zW, zX, zY, zZ, za, zb, zc, zd, ze, zf, zg, zh, zi, zj, zk, zl, zm, mkR_ok, zn, eq_self, Option.isNone_none, List.zip_cons_cons, List.zip_nil_left, zo, zp, zq, zr, Bool.true_or, Bool.or_true, zt, zu, zv, zw, zx, zy, zz, yA, yB, yC, yD, yE, yF, yG, yH, yI, yJ, yK, yL, yM, yN, yO, yP, evs, evds, evx, evI, evIs, sets, dl, lend, varT, data, dat, opt, tst, truD, yQ, yR, yS, yT, List.getD_cons_zero, List.getD_cons_succ, List.set_cons_zero, List.set_cons_succ, List.map_cons, List.map_nil, Option.map_some, Option.bind_some, yU, yV, yX, yY, yZ, ya, yc, yd, ye, yf, yg, yh, yi, yj, yk, yl, ym, yn, yo, yp, yq, yr, yt, yu, yw, yx, yy, yz, qA, qB, qC, qD, qE, qF, qG, qH, qI, qJ, qK, qL, qM, qN, qO, qP, qQ, qR, qS, qT, qU, qV, bltD, idxD, negD, itemsD, isiD, if_true, Bool.false_eq_true, if_false, Bool.not_true, Bool.not_false, List.length_cons, List.length_nil, Nat.zero_add, Nat.reduceAdd, lk0, lk1, lk2, lk3, lk4, lk5, lk6, lk7, lk8, lk9, lk10, lk11, lk12, lk13, lk14, lk15, lk16, lk17, lk18, lk19, lk20, lk21, lk22, lk23, lk24, lk25, lk26, lk27, lk28, lk29, lk30, lk31, lk32, ix0, ix1, ix2, Int.reduceLT, Int.reduceLE, eq_self, decide_true, decide_false, i_p_is_scheme_value, e1, e2, e3, decide_eq_false c1]
theorem s_lschv [E_law_power W] [E_law_two W] [E_law_is_int_7e02 W] [E_law_is_tuple W] [E_law_is_scheme_8282 W] (d : D) : W.ph fuel (n+3) 15 [.d d] k = .ok (.d (.bool (schB d))) k := by
  have e1 := s_ltup (W := W) (fuel := fuel) (n := n + 1) (k := k) d 2
  rw [u_law_is_scheme_8282]
  cases h : isT 2 d with
  | false =>
    rw [h] at e1
    rw [schB_no1 h]
    simp only [zA, zB, zC, zD, zE, zF, zG, zH, zI, zJ, zK, zL, zM, zN, zO, zP, zQ, zR, zS, zT, zU, zV, zW, zX, zY, zZ, za, zb, zc, zd, ze, zf, zg, zh, zi, zj, zk, zl, zm, mkR_ok, zn, eq_self, Option.isNone_none, List.zip_cons_cons, List.zip_nil_left, zo, zp, zq, zr, Bool.true_or, Bool.or_true, zt, zu, zv, zw, zx, zy, zz, yA, yB, yC, yD, yE, yF, yG, yH, yI, yJ, yK, yL, yM, yN, yO, yP, evs, evds, evx, evI, evIs, sets, dl, lend, varT, data, dat, opt, tst, truD, yQ, yR, yS, yT, List.getD_cons_zero, List.getD_cons_succ, List.set_cons_zero, List.set_cons_succ, List.map_cons, List.map_nil, Option.map_some, Option.bind_some, yU, yV, yX, yY, yZ, ya, yc, yd, ye, yf, yg, yh, yi, yj, yk, yl, ym, yn, yo, yp, yq, yr, yt, yu, yw, yx, yy, yz, qA, qB, qC, qD, qE, qF, qG, qH, qI, qJ, qK, qL, qM, qN, qO, qP, qQ, qR, qS, qT, qU, qV, bltD, idxD, negD, itemsD, isiD, if_true, Bool.false_eq_true, if_false, Bool.not_true, Bool.not_false, List.length_cons, List.length_nil, Nat.zero_add, Nat.reduceAdd, lk0, lk1, lk2, lk3, lk4, lk5, lk6, lk7, lk8, lk9, lk10, lk11, lk12, lk13, lk14, lk15, lk16, lk17, lk18, lk19, lk20, lk21, lk22, lk23, lk24, lk25, lk26, lk27, lk28, lk29, lk30, lk31, lk32, ix0, ix1, ix2, Int.reduceLT, Int.reduceLE, eq_self, decide_true, decide_false, i_law_is_scheme_8282, e1]
  | true =>
    obtain ⟨x, y, rfl⟩ := two_of h
    rw [h] at e1
    have e2 := s_lint (W := W) (fuel := fuel) (n := n + 1) (k := k) x
    have e3 := s_lint (W := W) (fuel := fuel) (n := n + 1) (k := k) y
    cases hx : isI x with
    | false =>
      rw [hx] at e2
      rw [schB_no2 hx]
      simp only [zA, zB, zC, zD, zE, zF, zG, zH, zI, zJ, zK, zL, zM, zN, zO, zP, zQ, zR, zS, zT, zU, zV, zW, zX, zY, zZ, za, zb, zc, zd, ze, zf, zg, zh, zi, zj, zk, zl, zm, mkR_ok, zn, eq_self, Option.isNone_none, List.zip_cons_cons, List.zip_nil_left, zo, zp, zq, zr, Bool.true_or, Bool.or_true, zt, zu, zv, zw, zx, zy, zz, yA, yB, yC, yD, yE, yF, yG, yH, yI, yJ, yK, yL, yM, yN, yO, yP, evs, evds, evx, evI, evIs, sets, dl, lend, varT, data, dat, opt, tst, truD, yQ, yR, yS, yT, List.getD_cons_zero, List.getD_cons_succ, List.set_cons_zero, List.set_cons_succ, List.map_cons, List.map_nil, Option.map_some, Option.bind_some, yU, yV, yX, yY, yZ, ya, yc, yd, ye, yf, yg, yh, yi, yj, yk, yl, ym, yn, yo, yp, yq, yr, yt, yu, yw, yx, yy, yz, qA, qB, qC, qD, qE, qF, qG, qH, qI, qJ, qK, qL, qM, qN, qO, qP, qQ, qR, qS, qT, qU, qV, bltD, idxD, negD, itemsD, isiD, if_true, Bool.false_eq_true, if_false, Bool.not_true, Bool.not_false, List.length_cons, List.length_nil, Nat.zero_add, Nat.reduceAdd, lk0, lk1, lk2, lk3, lk4, lk5, lk6, lk7, lk8, lk9, lk10, lk11, lk12, lk13, lk14, lk15, lk16, lk17, lk18, lk19, lk20, lk21, lk22, lk23, lk24, lk25, lk26, lk27, lk28, lk29, lk30, lk31, lk32, ix0, ix1, ix2, Int.reduceLT, Int.reduceLE, eq_self, decide_true, decide_false, i_law_is_scheme_8282, e1, e2]
    | true =>
      cases hy : isI y with
      | false =>
        rw [hx] at e2
        rw [hy] at e3
        rw [schB_no3 hy]
        simp only [zA, zB, zC, zD, zE, zF, zG, zH, zI, zJ, zK, zL, zM, zN, zO, zP, zQ, zR, zS, zT, zU, zV, zW, zX, zY, zZ, za, zb, zc, zd, ze, zf, zg, zh, zi, zj, zk, zl, zm, mkR_ok, zn, eq_self, Option.isNone_none, List.zip_cons_cons, List.zip_nil_left, zo, zp, zq, zr, Bool.true_or, Bool.or_true, zt, zu, zv, zw, zx, zy, zz, yA, yB, yC, yD, yE, yF, yG, yH, yI, yJ, yK, yL, yM, yN, yO, yP, evs, evds, evx, evI, evIs, sets, dl, lend, varT, data, dat, opt, tst, truD, yQ, yR, yS, yT, List.getD_cons_zero, List.getD_cons_succ, List.set_cons_zero, List.set_cons_succ, List.map_cons, List.map_nil, Option.map_some, Option.bind_some, yU, yV, yX, yY, yZ, ya, yc, yd, ye, yf, yg, yh, yi, yj, yk, yl, ym, yn, yo, yp, yq, yr, yt, yu, yw, yx, yy, yz, qA, qB, qC, qD, qE, qF, qG, qH, qI, qJ, qK, qL, qM, qN, qO, qP, qQ, qR, qS, qT, qU, qV, bltD, idxD, negD, itemsD, isiD, if_true, Bool.false_eq_true, if_false, Bool.not_true, Bool.not_false, List.length_cons, List.length_nil, Nat.zero_add, Nat.reduceAdd, lk0, lk1, lk2, lk3, lk4, lk5, lk6, lk7, lk8, lk9, lk10, lk11, lk12, lk13, lk14, lk15, lk16, lk17, lk18, lk19, lk20, lk21, lk22, lk23, lk24, lk25, lk26, lk27, lk28, lk29, lk30, lk31, lk32, ix0, ix1, ix2, Int.reduceLT, Int.reduceLE, eq_self, decide_true, decide_false, i_law_is_scheme_8282, e1, e2, e3]
      | true =>
        obtain ⟨r, rfl⟩ := int_of hx
        obtain ⟨a, rfl⟩ := int_of hy
        rw [hx] at e2
        rw [hy] at e3
        rw [schB_ii]
        by_cases c1 : 1 ≤ r
        · by_cases c2 : r ≤ 3
          · have e5 := s_ltwo (W := W) (fuel := fuel) (n := n) (k := k) (m := r) (by omega) (s62 (by omega) (by omega))
            have m2 : ∀ z, mulOk 2 z = true := fun z => mulOk_l (by decide)
            have pw : (2 : Int) ^ r.toNat = 2 * 2 ^ (r - 1).toNat := by
              rw [show r.toNat = (r - 1).toNat + 1 by omega, Int.pow_succ, Int.mul_comm]
            rw [decide_eq_true c1, decide_eq_true c2, Bool.true_and, Bool.true_and]
            by_cases c3 : 2 ^ (r - 1).toNat ≤ a
            · rw [decide_eq_true c3, Bool.true_and]
              have c4 : decide (a ≤ 2 ^ r.toNat - 1) = decide (a < 2 ^ r.toNat) := decide_eq_decide.mpr (by omega)
              simp only [zA, zB, zC, zD, zE, zF, zG, zH, zI, zJ, zK, zL, zM, zN, zO, zP, zQ, zR, zS, zT, zU, zV, zW, zX, zY, zZ, za, zb, zc, zd, ze, zf, zg, zh, zi, zj, zk, zl, zm, mkR_ok, zn, eq_self, Option.isNone_none, List.zip_cons_cons, List.zip_nil_left, zo, zp, zq, zr, Bool.true_or, Bool.or_true, zt, zu, zv, zw, zx, zy, zz, yA, yB, yC, yD, yE, yF, yG, yH, yI, yJ, yK, yL, yM, yN, yO, yP, evs, evds, evx, evI, evIs, sets, dl, lend, varT, data, dat, opt, tst, truD, yQ, yR, yS, yT, List.getD_cons_zero, List.getD_cons_succ, List.set_cons_zero, List.set_cons_succ, List.map_cons, List.map_nil, Option.map_some, Option.bind_some, yU, yV, yX, yY, yZ, ya, yc, yd, ye, yf, yg, yh, yi, yj, yk, yl, ym, yn, yo, yp, yq, yr, yt, yu, yw, yx, yy, yz, qA, qB, qC, qD, qE, qF, qG, qH, qI, qJ, qK, qL, qM, qN, qO, qP, qQ, qR, qS, qT, qU, qV, bltD, idxD, negD, itemsD, isiD, if_true, Bool.false_eq_true, if_false, Bool.not_true, Bool.not_false, List.length_cons, List.length_nil, Nat.zero_add, Nat.reduceAdd, lk0, lk1, lk2, lk3, lk4, lk5, lk6, lk7, lk8, lk9, lk10, lk11, lk12, lk13, lk14, lk15, lk16, lk17, lk18, lk19, lk20, lk21, lk22, lk23, lk24, lk25, lk26, lk27, lk28, lk29, lk30, lk31, lk32, ix0, ix1, ix2, Int.reduceLT, Int.reduceLE, eq_self, decide_true, decide_false, i_law_is_scheme_8282, e1, e2, e3, decide_eq_true c1, decide_eq_true c2, e5, m2, decide_eq_true (show (2 : Int) ^ r.toNat ≤ 2 * a by omega), c4]
            · rw [decide_eq_false c3, Bool.false_and]
              simp only [zA, zB, zC, zD, zE, zF, zG, zH, zI, zJ, zK, zL, zM, zN, zO, zP, zQ, zR, zS, zT, zU, zV, zW, zX, zY, zZ, za, zb, zc, zd, ze, zf, zg, zh, zi, zj, zk, zl, zm, mkR_ok, zn, eq_self, Option.isNone_none, List.zip_cons_cons, List.zip_nil_left, zo, zp, zq, zr, Bool.true_or, Bool.or_true, zt, zu, zv, zw, zx, zy, zz, yA, yB, yC, yD, yE, yF, yG, yH, yI, yJ, yK, yL, yM, yN, yO, yP, evs, evds, evx, evI, evIs, sets, dl, lend, varT, data, dat, opt, tst, truD, yQ, yR, yS, yT, List.getD_cons_zero, List.getD_cons_succ, List.set_cons_zero, List.set_cons_succ, List.map_cons, List.map_nil, Option.map_some, Option.bind_some, yU, yV, yX, yY, yZ, ya, yc, yd, ye, yf, yg, yh, yi, yj, yk, yl, ym, yn, yo, yp, yq, yr, yt, yu, yw, yx, yy, yz, qA, qB, qC, qD, qE, qF, qG, qH, qI, qJ, qK, qL, qM, qN, qO, qP, qQ, qR, qS, qT, qU, qV, bltD, idxD, negD, itemsD, isiD, if_true, Bool.false_eq_true, if_false, Bool.not_true, Bool.not_false, List.length_cons, List.length_nil, Nat.zero_add, Nat.reduceAdd, lk0, lk1, lk2, lk3, lk4, lk5, lk6, lk7, lk8, lk9, lk10, lk11, lk12, lk13, lk14, lk15, lk16, lk17, lk18, lk19, lk20, lk21, lk22, lk23, lk24, lk25, lk26, lk27, lk28, lk29, lk30, lk31, lk32, ix0, ix1, ix2, Int.reduceLT, Int.reduceLE, eq_self, decide_true, decide_false, i_law_is_scheme_8282, e1, e2, e3, decide_eq_true c1, decide_eq_true c2, e5, m2, decide_eq_false (show ¬ (2 : Int) ^ r.toNat ≤ 2 * a by omega)]
          · rw [decide_eq_false c2, Bool.false_and, Bool.and_false]
            simp only [zA, zB, zC, zD, zE, zF, zG, zH, zI, zJ, zK, zL, zM, zN, zO, zP, zQ, zR, zS, zT, zU, zV, zW, zX, zY, zZ, za, zb, zc, zd, ze, zf, zg, zh, zi, zj, zk, zl, zm, mkR_ok, zn, eq_self, Option.isNone_none, List.zip_cons_cons, List.zip_nil_left, zo, zp, zq, zr, Bool.true_or, Bool.or_true, zt, zu, zv, zw, zx, zy, zz, yA, yB, yC, yD, yE, yF, yG, yH, yI, yJ, yK, yL, yM, yN, yO, yP, evs, evds, evx, evI, evIs, sets, dl, lend, varT, data, dat, opt, tst, truD, yQ, yR, yS, yT, List.getD_cons_zero, List.getD_cons_succ, List.set_cons_zero, List.set_cons_succ, List.map_cons, List.map_nil, Option.map_some, Option.bind_some, yU, yV, yX, yY, yZ, ya, yc, yd, ye, yf, yg, yh, yi, yj, yk, yl, ym, yn, yo, yp, yq, yr, yt, yu, yw, yx, yy, yz, qA, qB, qC, qD, qE, qF, qG, qH, qI, qJ, qK, qL, qM, qN, qO, qP, qQ, qR, qS, qT, qU, qV, bltD, idxD, negD, itemsD, isiD, if_true, Bool.false_eq_true, if_false, Bool.not_true, Bool.not_false, List.length_cons, List.length_nil, Nat.zero_add, Nat.reduceAdd, lk0, lk1, lk2, lk3, lk4, lk5, lk6, lk7, lk8, lk9, lk10, lk11, lk12, lk13, lk14, lk15, lk16, lk17, lk18, lk19, lk20, lk21, lk22, lk23, lk24, lk25, lk26, lk27, lk28, lk29, lk30, lk31, lk32, ix0, ix1, ix2, Int.reduceLT, Int.reduceLE, eq_self, decide_true, decide_false, i_law_is_scheme_8282, e1, e2, e3, decide_eq_true c1, decide_eq_false c2]
        · rw [decide_eq_false c1, Bool.false_and]
          simp only [zA, zB, zC, zD, zE, zF, zG, zH, zI, zJ, zK, zL, zM, zN, zO, zP, zQ, zR, zS, zT, zU, zV, zW, zX, zY, zZ, za, zb, zc, zd, ze, zf, zg, zh, zi, zj, zk, zl, zm, mkR_ok, zn, eq_self, Option.isNone_none, List.zip_cons_cons, List.zip_nil_left, zo, zp, zq, zr, Bool.true_or, Bool.or_true, zt, zu, zv, zw, zx, zy, zz, yA, yB, yC, yD, yE, yF, yG, yH, yI, yJ, yK, yL, yM, yN, yO, yP, evs, evds, evx, evI, evIs, sets, dl, lend, varT, data, dat, opt, tst, truD, yQ, yR, yS, yT, List.getD_cons_zero, List.getD_cons_succ, List.set_cons_zero, List.set_cons_succ, List.map_cons, List.map_nil, Option.map_some, Option.bind_some, yU, yV, yX, yY, yZ, ya, yc, yd, ye, yf, yg, yh, yi, yj, yk, yl, ym, yn, yo, yp, yq, yr, yt, yu, yw, yx, yy, yz, qA, qB, qC, qD, qE, qF, qG, qH, qI, qJ, qK, qL, qM, qN, qO, qP, qQ, qR, qS, qT, qU, qV, bltD, idxD, negD, itemsD, isiD, if_true, Bool.false_eq_true, if_false, Bool.not_true, Bool.not_false, List.length_cons, List.length_nil, Nat.zero_add, Nat.reduceAdd, lk0, lk1, lk2, lk3, lk4, lk5, lk6, lk7, lk8, lk9, lk10, lk11, lk12, lk13, lk14, lk15, lk16, lk17, lk18, lk19, lk20, lk21, lk22, lk23, lk24, lk25, lk26, lk27, lk28, lk29, lk30, lk31, lk32, ix0, ix1, ix2, Int.reduceLT, Int.reduceLE, eq_self, decide_true, decide_false, i_law_is_scheme_8282, e1, e2, e3, decide_eq_false c1]
theorem sc_of {d : D} (h : schB d = true) : ∃ r a, Sc r a ∧ d = sch r a := by
  have h2 : isT 2 d = true := by
    cases e : isT 2 d with
    | true => rfl
    | false => rw [schB_no1 e] at h; cases h
  obtain ⟨x, y, rfl⟩ := two_of h2
  have hx : isI x = true := by
    cases e : isI x with
    | true => rfl
    | false => rw [schB_no2 e] at h; cases h
  have hy : isI y = true := by
    cases e : isI y with
    | true => rfl
    | false => rw [schB_no3 e] at h; cases h
  obtain ⟨r, rfl⟩ := int_of hx
  obtain ⟨a, rfl⟩ := int_of hy
  rw [schB_ii] at h
  simp only [Bool.and_eq_true, decide_eq_true_eq] at h
  obtain ⟨h1, h2, h3, h4⟩ := h
  refine ⟨r, a, ?_, rfl⟩
  have hr : r = 1 ∨ r = 2 ∨ r = 3 := by omega
  unfold Sc
  rcases hr with rfl | rfl | rfl
  · have : (2 : Int) ^ ((1 : Int) - 1).toNat = 1 := by decide
    have : (2 : Int) ^ (1 : Int).toNat = 2 := by decide
    omega
  · have : (2 : Int) ^ ((2 : Int) - 1).toNat = 2 := by decide
    have : (2 : Int) ^ (2 : Int).toNat = 4 := by decide
    omega
  · have : (2 : Int) ^ ((3 : Int) - 1).toNat = 4 := by decide
    have : (2 : Int) ^ (3 : Int).toNat = 8 := by decide
    omega
theorem sc_yes {r a : Int} (h : Sc r a) : schB (sch r a) = true := by
  rcases h with ⟨rfl, rfl⟩ | ⟨rfl, rfl⟩ | ⟨rfl, rfl⟩ | ⟨rfl, rfl⟩ | ⟨rfl, rfl⟩ | ⟨rfl, rfl⟩ | ⟨rfl, rfl⟩ <;> decide
/-- the bound -/
def bdT (r a : Int) : Int := if a = 2 ^ r.toNat - 1 then 1 else a
def bdB (r a : Int) : Int := if a = 2 ^ r.toNat - 1 then 1 else 2 ^ r.toNat - 1
abbrev bd (r a : Int) : D := .tuple [.int (bdT r a), .int (bdB r a)]
theorem s_bound [E_p_two W] [E_p_is_integer W] [E_p_is_tuple W] [E_p_is_scheme_value W] [E_p_need_scheme W] [E_p_fraction W] [E_p_bound W] {r a : Int} (h : Sc r a) : W.ph fuel (n+4) 7 [.d (sch r a)] k = .ok (.d (bd r a)) k := by
  have e1 := s_scheme (W := W) (fuel := fuel) (n := n) (k := k) h
  have hs := sc_le h
  have e2 := s_two (W := W) (fuel := fuel) (n := n + 2) (k := k) (i := r) (by omega) (by omega)
  have e3 : W.ph fuel (n+3) 5 [.d (.int a), .d (.int (2 ^ r.toNat - 1))] k = .ok (.d (bd r a)) k := by
    rw [u_p_fraction]
    rcases h with ⟨rfl, rfl⟩ | ⟨rfl, rfl⟩ | ⟨rfl, rfl⟩ | ⟨rfl, rfl⟩ | ⟨rfl, rfl⟩ | ⟨rfl, rfl⟩ | ⟨rfl, rfl⟩ <;> rfl
  rw [u_p_bound]
  simp only [zA, zB, zC, zD, zE, zF, zG, zH, zI, zJ, zK, zL, zM, zN, zO, zP, zQ, zR, zS, zT, zU, zV, zW, zX, zY, zZ, za, zb, zc, zd, ze, zf, zg, zh, zi, zj, zk, zl, zm, mkR_ok, zn, eq_self, Option.isNone_none, List.zip_cons_cons, List.zip_nil_left, zo, zp, zq, zr, Bool.true_or, Bool.or_true, zt, zu, zv, zw, zx, zy, zz, yA, yB, yC, yD, yE, yF, yG, yH, yI, yJ, yK, yL, yM, yN, yO, yP, evs, evds, evx, evI, evIs, sets, dl, lend, varT, data, dat, opt, tst, truD, yQ, yR, yS, yT, List.getD_cons_zero, List.getD_cons_succ, List.set_cons_zero, List.set_cons_succ, List.map_cons, List.map_nil, Option.map_some, Option.bind_some, yU, yV, yX, yY, yZ, ya, yc, yd, ye, yf, yg, yh, yi, yj, yk, yl, ym, yn, yo, yp, yq, yr, yt, yu, yw, yx, yy, yz, qA, qB, qC, qD, qE, qF, qG, qH, qI, qJ, qK, qL, qM, qN, qO, qP, qQ, qR, qS, qT, qU, qV, bltD, idxD, negD, itemsD, isiD, if_true, Bool.false_eq_true, if_false, Bool.not_true, Bool.not_false, List.length_cons, List.length_nil, Nat.zero_add, Nat.reduceAdd, lk0, lk1, lk2, lk3, lk4, lk5, lk6, lk7, lk8, lk9, lk10, lk11, lk12, lk13, lk14, lk15, lk16, lk17, lk18, lk19, lk20, lk21, lk22, lk23, lk24, lk25, lk26, lk27, lk28, lk29, lk30, lk31, lk32, ix0, ix1, ix2, Int.reduceLT, Int.reduceLE, eq_self, decide_true, decide_false, i_p_bound, e1, e2, e3]
theorem s_lbound [E_law_power W] [E_law_two W] [E_law_bound W] {r a : Int} (h : Sc r a) : W.ph fuel (n+3) 16 [.d (sch r a)] k = .ok (.d (bd r a)) k := by
  have hs := sc_le h
  have e2 := s_ltwo (W := W) (fuel := fuel) (n := n) (k := k) (m := r) (by omega) (s62 (by omega) (by omega))
  rw [u_law_bound]
  refine okEq (OkE.fin ?_)
  unfold i_law_bound
  refine OkX.step (t' := [some (.d (sch r a)), some (.d (.int a)), some (.d (.int (2 ^ r.toNat - 1))), none]) (k' := k) (by simp only [zA, zB, zC, zD, zE, zF, zG, zH, zI, zJ, zK, zL, zM, zN, zO, zP, zQ, zR, zS, zT, zU, zV, zW, zX, zY, zZ, za, zb, zc, zd, ze, zf, zg, zh, zi, zj, zk, zl, zm, mkR_ok, zn, eq_self, Option.isNone_none, List.zip_cons_cons, List.zip_nil_left, zo, zp, zq, zr, Bool.true_or, Bool.or_true, zt, zu, zv, zw, zx, zy, zz, yA, yB, yC, yD, yE, yF, yG, yH, yI, yJ, yK, yL, yM, yN, yO, yP, evs, evds, evx, evI, evIs, sets, dl, lend, varT, data, dat, opt, tst, truD, yQ, yR, yS, yT, List.getD_cons_zero, List.getD_cons_succ, List.set_cons_zero, List.set_cons_succ, List.map_cons, List.map_nil, Option.map_some, Option.bind_some, yU, yV, yX, yY, yZ, ya, yc, yd, ye, yf, yg, yh, yi, yj, yk, yl, ym, yn, yo, yp, yq, yr, yt, yu, yw, yx, yy, yz, qA, qB, qC, qD, qE, qF, qG, qH, qI, qJ, qK, qL, qM, qN, qO, qP, qQ, qR, qS, qT, qU, qV, bltD, idxD, negD, itemsD, isiD, if_true, Bool.false_eq_true, if_false, Bool.not_true, Bool.not_false, List.length_cons, List.length_nil, Nat.zero_add, Nat.reduceAdd, lk0, lk1, lk2, lk3, lk4, lk5, lk6, lk7, lk8, lk9, lk10, lk11, lk12, lk13, lk14, lk15, lk16, lk17, lk18, lk19, lk20, lk21, lk22, lk23, lk24, lk25, lk26, lk27, lk28, lk29, lk30, lk31, lk32, ix0, ix1, ix2, Int.reduceLT, Int.reduceLE, eq_self, decide_true, decide_false, e2]) ?_
  refine OkX.step (t' := [some (.d (sch r a)), some (.d (.int (bdT r a))), some (.d (.int (bdB r a))), some (.d (.int 2))]) (k' := k) (by
    rcases h with ⟨rfl, rfl⟩ | ⟨rfl, rfl⟩ | ⟨rfl, rfl⟩ | ⟨rfl, rfl⟩ | ⟨rfl, rfl⟩ | ⟨rfl, rfl⟩ | ⟨rfl, rfl⟩ <;> rfl) ?_
  exact OkX.ret (by simp only [zA, zB, zC, zD, zE, zF, zG, zH, zI, zJ, zK, zL, zM, zN, zO, zP, zQ, zR, zS, zT, zU, zV, zW, zX, zY, zZ, za, zb, zc, zd, ze, zf, zg, zh, zi, zj, zk, zl, zm, mkR_ok, zn, eq_self, Option.isNone_none, List.zip_cons_cons, List.zip_nil_left, zo, zp, zq, zr, Bool.true_or, Bool.or_true, zt, zu, zv, zw, zx, zy, zz, yA, yB, yC, yD, yE, yF, yG, yH, yI, yJ, yK, yL, yM, yN, yO, yP, evs, evds, evx, evI, evIs, sets, dl, lend, varT, data, dat, opt, tst, truD, yQ, yR, yS, yT, List.getD_cons_zero, List.getD_cons_succ, List.set_cons_zero, List.set_cons_succ, List.map_cons, List.map_nil, Option.map_some, Option.bind_some, yU, yV, yX, yY, yZ, ya, yc, yd, ye, yf, yg, yh, yi, yj, yk, yl, ym, yn, yo, yp, yq, yr, yt, yu, yw, yx, yy, yz, qA, qB, qC, qD, qE, qF, qG, qH, qI, qJ, qK, qL, qM, qN, qO, qP, qQ, qR, qS, qT, qU, qV, bltD, idxD, negD, itemsD, isiD, if_true, Bool.false_eq_true, if_false, Bool.not_true, Bool.not_false, List.length_cons, List.length_nil, Nat.zero_add, Nat.reduceAdd, lk0, lk1, lk2, lk3, lk4, lk5, lk6, lk7, lk8, lk9, lk10, lk11, lk12, lk13, lk14, lk15, lk16, lk17, lk18, lk19, lk20, lk21, lk22, lk23, lk24, lk25, lk26, lk27, lk28, lk29, lk30, lk31, lk32, ix0, ix1, ix2, Int.reduceLT, Int.reduceLE, eq_self, decide_true, decide_false, eq_self]; rfl) ⟨rfl, rfl⟩
theorem s_nsch_ex [E_p_two W] [E_p_is_integer W] [E_p_is_tuple W] [E_p_is_scheme_value W] [E_p_need_scheme W] {d : D} (h : schB d = false) : W.ph fuel (n+3) 4 [.d d] k = .ex "BadScheme" d k := by
  have e1 := s_schv (W := W) (fuel := fuel) (n := n) (k := k) d
  rw [h] at e1
  rw [u_p_need_scheme]
  unfold i_p_need_scheme
  simp only [zA, zB, zC, zD, zE, zF, zG, zH, zI, zJ, zK, zL, zM, zN, zO, zP, zQ, zR, zS, zT, zU, zV, zW, zX, zY, zZ, za, zb, zc, zd, ze, zf, zg, zh, zi, zj, zk, zl, zm, mkR_ok, zn, eq_self, Option.isNone_none, List.zip_cons_cons, List.zip_nil_left, zo, zp, zq, zr, Bool.true_or, Bool.or_true, zt, zu, zv, zw, zx, zy, zz, yA, yB, yC, yD, yE, yF, yG, yH, yI, yJ, yK, yL, yM, yN, yO, yP, evs, evds, evx, evI, evIs, sets, dl, lend, varT, data, dat, opt, tst, truD, yQ, yR, yS, yT, List.getD_cons_zero, List.getD_cons_succ, List.set_cons_zero, List.set_cons_succ, List.map_cons, List.map_nil, Option.map_some, Option.bind_some, yU, yV, yX, yY, yZ, ya, yc, yd, ye, yf, yg, yh, yi, yj, yk, yl, ym, yn, yo, yp, yq, yr, yt, yu, yw, yx, yy, yz, qA, qB, qC, qD, qE, qF, qG, qH, qI, qJ, qK, qL, qM, qN, qO, qP, qQ, qR, qS, qT, qU, qV, bltD, idxD, negD, itemsD, isiD, if_true, Bool.false_eq_true, if_false, Bool.not_true, Bool.not_false, Rs.bind_ex, Rs.thn_ex, Xs.bind_ex, e_xat, e_isx, e_lamc, x_lamb, noEx, handle, noX, noXf, xS, if_pos, List.length_cons, List.length_nil, Nat.zero_add, Nat.reduceAdd, lk0, lk1, lk2, lk3, lk4, lk5, lk6, lk7, lk8, lk9, lk10, lk11, lk12, lk13, lk14, lk15, lk16, lk17, lk18, lk19, lk20, lk21, lk22, lk23, lk24, lk25, lk26, lk27, lk28, lk29, lk30, lk31, lk32, ix0, ix1, ix2, Int.reduceLT, Int.reduceLE, eq_self, decide_true, decide_false, e1]
theorem s_bound_ex [E_p_two W] [E_p_is_integer W] [E_p_is_tuple W] [E_p_is_scheme_value W] [E_p_need_scheme W] [E_p_bound W] {d : D} (h : schB d = false) : W.ph fuel (n+4) 7 [.d d] k = .ex "BadScheme" d k := by
  have e1 := s_nsch_ex (W := W) (fuel := fuel) (n := n) (k := k) h
  rw [u_p_bound]
  unfold i_p_bound
  simp only [zA, zB, zC, zD, zE, zF, zG, zH, zI, zJ, zK, zL, zM, zN, zO, zP, zQ, zR, zS, zT, zU, zV, zW, zX, zY, zZ, za, zb, zc, zd, ze, zf, zg, zh, zi, zj, zk, zl, zm, mkR_ok, zn, eq_self, Option.isNone_none, List.zip_cons_cons, List.zip_nil_left, zo, zp, zq, zr, Bool.true_or, Bool.or_true, zt, zu, zv, zw, zx, zy, zz, yA, yB, yC, yD, yE, yF, yG, yH, yI, yJ, yK, yL, yM, yN, yO, yP, evs, evds, evx, evI, evIs, sets, dl, lend, varT, data, dat, opt, tst, truD, yQ, yR, yS, yT, List.getD_cons_zero, List.getD_cons_succ, List.set_cons_zero, List.set_cons_succ, List.map_cons, List.map_nil, Option.map_some, Option.bind_some, yU, yV, yX, yY, yZ, ya, yc, yd, ye, yf, yg, yh, yi, yj, yk, yl, ym, yn, yo, yp, yq, yr, yt, yu, yw, yx, yy, yz, qA, qB, qC, qD, qE, qF, qG, qH, qI, qJ, qK, qL, qM, qN, qO, qP, qQ, qR, qS, qT, qU, qV, bltD, idxD, negD, itemsD, isiD, if_true, Bool.false_eq_true, if_false, Bool.not_true, Bool.not_false, Rs.bind_ex, Rs.thn_ex, Xs.bind_ex, e_xat, e_isx, e_lamc, x_lamb, noEx, handle, noX, noXf, xS, if_pos, List.length_cons, List.length_nil, Nat.zero_add, Nat.reduceAdd, lk0, lk1, lk2, lk3, lk4, lk5, lk6, lk7, lk8, lk9, lk10, lk11, lk12, lk13, lk14, lk15, lk16, lk17, lk18, lk19, lk20, lk21, lk22, lk23, lk24, lk25, lk26, lk27, lk28, lk29, lk30, lk31, lk32, ix0, ix1, ix2, Int.reduceLT, Int.reduceLE, eq_self, decide_true, decide_false, e1]
theorem s_isch [E_p_two W] [E_p_is_integer W] [E_p_is_tuple W] [E_p_is_scheme_value W] [E_p_is_scheme W] (d : D) : W.ph fuel (n+3) 6 [.d d] k = .ok (.d (.bool (schB d))) k := by
  have e1 := s_schv (W := W) (fuel := fuel) (n := n) (k := k) d
  rw [u_p_is_scheme]
  simp only [zA, zB, zC, zD, zE, zF, zG, zH, zI, zJ, zK, zL, zM, zN, zO, zP, zQ, zR, zS, zT, zU, zV, zW, zX, zY, zZ, za, zb, zc, zd, ze, zf, zg, zh, zi, zj, zk, zl, zm, mkR_ok, zn, eq_self, Option.isNone_none, List.zip_cons_cons, List.zip_nil_left, zo, zp, zq, zr, Bool.true_or, Bool.or_true, zt, zu, zv, zw, zx, zy, zz, yA, yB, yC, yD, yE, yF, yG, yH, yI, yJ, yK, yL, yM, yN, yO, yP, evs, evds, evx, evI, evIs, sets, dl, lend, varT, data, dat, opt, tst, truD, yQ, yR, yS, yT, List.getD_cons_zero, List.getD_cons_succ, List.set_cons_zero, List.set_cons_succ, List.map_cons, List.map_nil, Option.map_some, Option.bind_some, yU, yV, yX, yY, yZ, ya, yc, yd, ye, yf, yg, yh, yi, yj, yk, yl, ym, yn, yo, yp, yq, yr, yt, yu, yw, yx, yy, yz, qA, qB, qC, qD, qE, qF, qG, qH, qI, qJ, qK, qL, qM, qN, qO, qP, qQ, qR, qS, qT, qU, qV, bltD, idxD, negD, itemsD, isiD, if_true, Bool.false_eq_true, if_false, Bool.not_true, Bool.not_false, List.length_cons, List.length_nil, Nat.zero_add, Nat.reduceAdd, lk0, lk1, lk2, lk3, lk4, lk5, lk6, lk7, lk8, lk9, lk10, lk11, lk12, lk13, lk14, lk15, lk16, lk17, lk18, lk19, lk20, lk21, lk22, lk23, lk24, lk25, lk26, lk27, lk28, lk29, lk30, lk31, lk32, ix0, ix1, ix2, Int.reduceLT, Int.reduceLE, eq_self, decide_true, decide_false, i_p_is_scheme, e1]
theorem s_triedO0 [E_law_tried_a214 W] {j : Nat} {t : Tau} {v : D} (h : W.ph fuel n j [.clo j t] k = .ok (.d v) k') : W.ph fuel (n+1) 17 [.clo j t] k = .ok (.d (.tuple [.str "returned", v])) k' := by
  rw [u_law_tried_a214]
  refine okEq (OkE.fin ?_)
  unfold i_law_tried_a214
  refine OkX.step (by simp only [zA, zB, zC, zD, zE, zF, zG, zH, zI, zJ, zK, zL, zM, zN, zO, zP, zQ, zR, zS, zT, zU, zV, zW, zX, zY, zZ, za, zb, zc, zd, ze, zf, zg, zh, zi, zj, zk, zl, zm, mkR_ok, zn, eq_self, Option.isNone_none, List.zip_cons_cons, List.zip_nil_left, zo, zp, zq, zr, Bool.true_or, Bool.or_true, zt, zu, zv, zw, zx, zy, zz, yA, yB, yC, yD, yE, yF, yG, yH, yI, yJ, yK, yL, yM, yN, yO, yP, evs, evds, evx, evI, evIs, sets, dl, lend, varT, data, dat, opt, tst, truD, yQ, yR, yS, yT, List.getD_cons_zero, List.getD_cons_succ, List.set_cons_zero, List.set_cons_succ, List.map_cons, List.map_nil, Option.map_some, Option.bind_some, yU, yV, yX, yY, yZ, ya, yc, yd, ye, yf, yg, yh, yi, yj, yk, yl, ym, yn, yo, yp, yq, yr, yt, yu, yw, yx, yy, yz, qA, qB, qC, qD, qE, qF, qG, qH, qI, qJ, qK, qL, qM, qN, qO, qP, qQ, qR, qS, qT, qU, qV, bltD, idxD, negD, itemsD, isiD, if_true, Bool.false_eq_true, if_false, Bool.not_true, Bool.not_false, List.length_cons, List.length_nil, Nat.zero_add, Nat.reduceAdd, lk0, lk1, lk2, lk3, lk4, lk5, lk6, lk7, lk8, lk9, lk10, lk11, lk12, lk13, lk14, lk15, lk16, lk17, lk18, lk19, lk20, lk21, lk22, lk23, lk24, lk25, lk26, lk27, lk28, lk29, lk30, lk31, lk32, ix0, ix1, ix2, Int.reduceLT, Int.reduceLE, eq_self, decide_true, decide_false, eq_self] <;> with_reducible rfl) ?_
  refine OkX.step (by simp only [zA, zB, zC, zD, zE, zF, zG, zH, zI, zJ, zK, zL, zM, zN, zO, zP, zQ, zR, zS, zT, zU, zV, zW, zX, zY, zZ, za, zb, zc, zd, ze, zf, zg, zh, zi, zj, zk, zl, zm, mkR_ok, zn, eq_self, Option.isNone_none, List.zip_cons_cons, List.zip_nil_left, zo, zp, zq, zr, Bool.true_or, Bool.or_true, zt, zu, zv, zw, zx, zy, zz, yA, yB, yC, yD, yE, yF, yG, yH, yI, yJ, yK, yL, yM, yN, yO, yP, evs, evds, evx, evI, evIs, sets, dl, lend, varT, data, dat, opt, tst, truD, yQ, yR, yS, yT, List.getD_cons_zero, List.getD_cons_succ, List.set_cons_zero, List.set_cons_succ, List.map_cons, List.map_nil, Option.map_some, Option.bind_some, yU, yV, yX, yY, yZ, ya, yc, yd, ye, yf, yg, yh, yi, yj, yk, yl, ym, yn, yo, yp, yq, yr, yt, yu, yw, yx, yy, yz, qA, qB, qC, qD, qE, qF, qG, qH, qI, qJ, qK, qL, qM, qN, qO, qP, qQ, qR, qS, qT, qU, qV, bltD, idxD, negD, itemsD, isiD, if_true, Bool.false_eq_true, if_false, Bool.not_true, Bool.not_false, List.length_cons, List.length_nil, Nat.zero_add, Nat.reduceAdd, lk0, lk1, lk2, lk3, lk4, lk5, lk6, lk7, lk8, lk9, lk10, lk11, lk12, lk13, lk14, lk15, lk16, lk17, lk18, lk19, lk20, lk21, lk22, lk23, lk24, lk25, lk26, lk27, lk28, lk29, lk30, lk31, lk32, ix0, ix1, ix2, Int.reduceLT, Int.reduceLE, eq_self, decide_true, decide_false, h] <;> with_reducible rfl) ?_
  exact OkX.ret (by simp only [zA, zB, zC, zD, zE, zF, zG, zH, zI, zJ, zK, zL, zM, zN, zO, zP, zQ, zR, zS, zT, zU, zV, zW, zX, zY, zZ, za, zb, zc, zd, ze, zf, zg, zh, zi, zj, zk, zl, zm, mkR_ok, zn, eq_self, Option.isNone_none, List.zip_cons_cons, List.zip_nil_left, zo, zp, zq, zr, Bool.true_or, Bool.or_true, zt, zu, zv, zw, zx, zy, zz, yA, yB, yC, yD, yE, yF, yG, yH, yI, yJ, yK, yL, yM, yN, yO, yP, evs, evds, evx, evI, evIs, sets, dl, lend, varT, data, dat, opt, tst, truD, yQ, yR, yS, yT, List.getD_cons_zero, List.getD_cons_succ, List.set_cons_zero, List.set_cons_succ, List.map_cons, List.map_nil, Option.map_some, Option.bind_some, yU, yV, yX, yY, yZ, ya, yc, yd, ye, yf, yg, yh, yi, yj, yk, yl, ym, yn, yo, yp, yq, yr, yt, yu, yw, yx, yy, yz, qA, qB, qC, qD, qE, qF, qG, qH, qI, qJ, qK, qL, qM, qN, qO, qP, qQ, qR, qS, qT, qU, qV, bltD, idxD, negD, itemsD, isiD, if_true, Bool.false_eq_true, if_false, Bool.not_true, Bool.not_false, List.length_cons, List.length_nil, Nat.zero_add, Nat.reduceAdd, lk0, lk1, lk2, lk3, lk4, lk5, lk6, lk7, lk8, lk9, lk10, lk11, lk12, lk13, lk14, lk15, lk16, lk17, lk18, lk19, lk20, lk21, lk22, lk23, lk24, lk25, lk26, lk27, lk28, lk29, lk30, lk31, lk32, ix0, ix1, ix2, Int.reduceLT, Int.reduceLE, eq_self, decide_true, decide_false, eq_self]; rfl) ⟨rfl, rfl⟩
theorem s_triedX0 [E_law_tried_a214 W] (hs : W.sub "BadScheme" "BadScheme" = true) (hf : W.sub ".thing" "BadScheme" = true) {j : Nat} {t : Tau} {v : D} (h : W.ph fuel n j [.clo j t] k = .ex "BadScheme" v k') : W.ph fuel (n+1) 17 [.clo j t] k = .ok (.d (.tuple [.str "BadScheme", v])) k' := by
  rw [u_law_tried_a214]
  refine okEq (OkE.fin ?_)
  unfold i_law_tried_a214
  refine OkX.step (by simp only [zA, zB, zC, zD, zE, zF, zG, zH, zI, zJ, zK, zL, zM, zN, zO, zP, zQ, zR, zS, zT, zU, zV, zW, zX, zY, zZ, za, zb, zc, zd, ze, zf, zg, zh, zi, zj, zk, zl, zm, mkR_ok, zn, eq_self, Option.isNone_none, List.zip_cons_cons, List.zip_nil_left, zo, zp, zq, zr, Bool.true_or, Bool.or_true, zt, zu, zv, zw, zx, zy, zz, yA, yB, yC, yD, yE, yF, yG, yH, yI, yJ, yK, yL, yM, yN, yO, yP, evs, evds, evx, evI, evIs, sets, dl, lend, varT, data, dat, opt, tst, truD, yQ, yR, yS, yT, List.getD_cons_zero, List.getD_cons_succ, List.set_cons_zero, List.set_cons_succ, List.map_cons, List.map_nil, Option.map_some, Option.bind_some, yU, yV, yX, yY, yZ, ya, yc, yd, ye, yf, yg, yh, yi, yj, yk, yl, ym, yn, yo, yp, yq, yr, yt, yu, yw, yx, yy, yz, qA, qB, qC, qD, qE, qF, qG, qH, qI, qJ, qK, qL, qM, qN, qO, qP, qQ, qR, qS, qT, qU, qV, bltD, idxD, negD, itemsD, isiD, if_true, Bool.false_eq_true, if_false, Bool.not_true, Bool.not_false, List.length_cons, List.length_nil, Nat.zero_add, Nat.reduceAdd, lk0, lk1, lk2, lk3, lk4, lk5, lk6, lk7, lk8, lk9, lk10, lk11, lk12, lk13, lk14, lk15, lk16, lk17, lk18, lk19, lk20, lk21, lk22, lk23, lk24, lk25, lk26, lk27, lk28, lk29, lk30, lk31, lk32, ix0, ix1, ix2, Int.reduceLT, Int.reduceLE, eq_self, decide_true, decide_false, eq_self] <;> with_reducible rfl) ?_
  refine OkX.step (t' := [some (.clo j t), some (.d (.tuple [.str "BadScheme", v])), none]) (k' := k') (by simp only [zA, zB, zC, zD, zE, zF, zG, zH, zI, zJ, zK, zL, zM, zN, zO, zP, zQ, zR, zS, zT, zU, zV, zW, zX, zY, zZ, za, zb, zc, zd, ze, zf, zg, zh, zi, zj, zk, zl, zm, mkR_ok, zn, eq_self, Option.isNone_none, List.zip_cons_cons, List.zip_nil_left, zo, zp, zq, zr, Bool.true_or, Bool.or_true, zt, zu, zv, zw, zx, zy, zz, yA, yB, yC, yD, yE, yF, yG, yH, yI, yJ, yK, yL, yM, yN, yO, yP, evs, evds, evx, evI, evIs, sets, dl, lend, varT, data, dat, opt, tst, truD, yQ, yR, yS, yT, List.getD_cons_zero, List.getD_cons_succ, List.set_cons_zero, List.set_cons_succ, List.map_cons, List.map_nil, Option.map_some, Option.bind_some, yU, yV, yX, yY, yZ, ya, yc, yd, ye, yf, yg, yh, yi, yj, yk, yl, ym, yn, yo, yp, yq, yr, yt, yu, yw, yx, yy, yz, qA, qB, qC, qD, qE, qF, qG, qH, qI, qJ, qK, qL, qM, qN, qO, qP, qQ, qR, qS, qT, qU, qV, bltD, idxD, negD, itemsD, isiD, if_true, Bool.false_eq_true, if_false, Bool.not_true, Bool.not_false, Rs.bind_ex, Rs.thn_ex, Xs.bind_ex, e_xat, e_isx, e_lamc, x_lamb, noEx, handle, noX, noXf, xS, if_pos, List.length_cons, List.length_nil, Nat.zero_add, Nat.reduceAdd, lk0, lk1, lk2, lk3, lk4, lk5, lk6, lk7, lk8, lk9, lk10, lk11, lk12, lk13, lk14, lk15, lk16, lk17, lk18, lk19, lk20, lk21, lk22, lk23, lk24, lk25, lk26, lk27, lk28, lk29, lk30, lk31, lk32, ix0, ix1, ix2, Int.reduceLT, Int.reduceLE, eq_self, decide_true, decide_false, h, hs, hf, List.any_cons, List.any_nil, List.all_cons, List.all_nil, Bool.or_false, Bool.and_true] <;> rfl) ?_
  exact OkX.ret (by simp only [zA, zB, zC, zD, zE, zF, zG, zH, zI, zJ, zK, zL, zM, zN, zO, zP, zQ, zR, zS, zT, zU, zV, zW, zX, zY, zZ, za, zb, zc, zd, ze, zf, zg, zh, zi, zj, zk, zl, zm, mkR_ok, zn, eq_self, Option.isNone_none, List.zip_cons_cons, List.zip_nil_left, zo, zp, zq, zr, Bool.true_or, Bool.or_true, zt, zu, zv, zw, zx, zy, zz, yA, yB, yC, yD, yE, yF, yG, yH, yI, yJ, yK, yL, yM, yN, yO, yP, evs, evds, evx, evI, evIs, sets, dl, lend, varT, data, dat, opt, tst, truD, yQ, yR, yS, yT, List.getD_cons_zero, List.getD_cons_succ, List.set_cons_zero, List.set_cons_succ, List.map_cons, List.map_nil, Option.map_some, Option.bind_some, yU, yV, yX, yY, yZ, ya, yc, yd, ye, yf, yg, yh, yi, yj, yk, yl, ym, yn, yo, yp, yq, yr, yt, yu, yw, yx, yy, yz, qA, qB, qC, qD, qE, qF, qG, qH, qI, qJ, qK, qL, qM, qN, qO, qP, qQ, qR, qS, qT, qU, qV, bltD, idxD, negD, itemsD, isiD, if_true, Bool.false_eq_true, if_false, Bool.not_true, Bool.not_false, List.length_cons, List.length_nil, Nat.zero_add, Nat.reduceAdd, lk0, lk1, lk2, lk3, lk4, lk5, lk6, lk7, lk8, lk9, lk10, lk11, lk12, lk13, lk14, lk15, lk16, lk17, lk18, lk19, lk20, lk21, lk22, lk23, lk24, lk25, lk26, lk27, lk28, lk29, lk30, lk31, lk32, ix0, ix1, ix2, Int.reduceLT, Int.reduceLE, eq_self, decide_true, decide_false, eq_self]; rfl) ⟨rfl, rfl⟩
/-- a value with its text -/
def Ow (x : D) : Prop := Rep x 200 0 ∧ ∃ s, bltD .str [x] = some (.str s) ∧ Rep (.str s) 100 0
theorem ow_int {i : Int} (h : Rep (.int i) 200 0) (h1 : i.natAbs.log2 < 1920) (h2 : Rep (.str (toString i)) 100 0) : Ow (.int i) := ⟨h, _, if_pos (decide_eq_true h1), h2⟩
theorem s_any [Draw W] [E_law_pick_fa54 W] [E_law_any_56cc W] (hd : dkO W k) : OkE (W.ph fuel (n+3) 18 [.deck] k) fun z k' => dkO W k' ∧ ∃ d : D, z = .d d ∧ Rep d 2000 6 := by
  have p6 : (10 : Int) ^ (6 : Int).toNat = 1000000 := by decide
  have p39 : (10 : Int) ^ (39 : Int).toNat = 1000000000000000000000000000000000000000 := by decide
  have o6 : powOk 10 6 = true := by decide
  have o39 : powOk 10 39 = true := by decide
  have r39 : Rep (.int 1000000000000000000000000000000000000000) 200 0 := (rep_int (b := 150) (by decide) (log2_lt (by decide) (by decide)) (by decide)).mono (by decide) (by decide)
  have r40 : ∀ i : Int, -1000000000000 ≤ i → i ≤ 1000000000000 → Rep (.int i) 200 0 := fun i h1 h2 => (rep_40 h1 h2).mono (by decide) (by decide)
  obtain ⟨z, k1, e1, d1, x, hx, rfl⟩ := s_pick (W := W) (fuel := fuel) (n := n) (k := k) (xs := [.int 2, .int 1, .int 3, .int 0, .int 4, .int (-1), .int 1000000, .bool true, .int 5]) (by simp) (by simp) hd
  have ox : Ow x := by
    simp only [List.mem_cons, List.not_mem_nil, or_false] at hx
    rcases hx with rfl | rfl | rfl | rfl | rfl | rfl | rfl | rfl | rfl
    all_goals first
      | exact ow_int (r40 _ (by decide) (by decide)) (by decide) ⟨by decide +kernel, by decide +kernel, by decide⟩
      | exact ⟨rep_bool.mono (by decide) (by decide), "True", rfl, ⟨by decide, by decide +kernel, by decide⟩⟩
  obtain ⟨z, k2, e2, d2, y, hy, rfl⟩ := s_pick (W := W) (fuel := fuel) (n := n) (k := k1) (xs := [.int 2, .int 1, .int 3, .int 4, .int 5, .int 6, .int 7, .int 8, .int 0, .int (-2), .int 1000000000000000000000000000000000000000, .bool true, .none, .int 16, .int 31]) (by simp) (by simp) d1
  have oy : Ow y := by
    simp only [List.mem_cons, List.not_mem_nil, or_false] at hy
    rcases hy with rfl | rfl | rfl | rfl | rfl | rfl | rfl | rfl | rfl | rfl | rfl | rfl | rfl | rfl | rfl
    all_goals first
      | exact ow_int (r40 _ (by decide) (by decide)) (by decide) ⟨by decide +kernel, by decide +kernel, by decide⟩
      | exact ow_int r39 (by decide +kernel) ⟨by decide +kernel, by decide +kernel, by decide⟩
      | exact ⟨rep_bool.mono (by decide) (by decide), "True", rfl, ⟨by decide, by decide +kernel, by decide⟩⟩
      | exact ⟨rep_none.mono (by decide) (by decide), "None", rfl, ⟨by decide, by decide +kernel, by decide⟩⟩
  obtain ⟨rx, sx, ex, rsx⟩ := ox
  obtain ⟨ry, sy, ey, rsy⟩ := oy
  obtain ⟨z, k3, e3, d3, q, rfl, q0, q1⟩ := s_draw (W := W) (fuel := fuel) (n := n + 1) (k := k2) (m := 6) (by decide) (by decide) d2
  have p2 := fun {a b : D} {c c' e e' : Nat} (h1 : Rep a c e) (h2 : Rep b c' e') => rep_tuple (repA_cons h1 (repA_cons h2 repA_nil))
  rw [u_law_any_56cc]
  refine OkE.fin ?_
  unfold i_law_any_56cc
  refine OkX.step (by simp only [zA, zB, zC, zD, zE, zF, zG, zH, zI, zJ, zK, zL, zM, zN, zO, zP, zQ, zR, zS, zT, zU, zV, zW, zX, zY, zZ, za, zb, zc, zd, ze, zf, zg, zh, zi, zj, zk, zl, zm, mkR_ok, zn, eq_self, Option.isNone_none, List.zip_cons_cons, List.zip_nil_left, zo, zp, zq, zr, Bool.true_or, Bool.or_true, zt, zu, zv, zw, zx, zy, zz, yA, yB, yC, yD, yE, yF, yG, yH, yI, yJ, yK, yL, yM, yN, yO, yP, evs, evds, evx, evI, evIs, sets, dl, lend, varT, data, dat, opt, tst, truD, yQ, yR, yS, yT, List.getD_cons_zero, List.getD_cons_succ, List.set_cons_zero, List.set_cons_succ, List.map_cons, List.map_nil, Option.map_some, Option.bind_some, yU, yV, yX, yY, yZ, ya, yc, yd, ye, yf, yg, yh, yi, yj, yk, yl, ym, yn, yo, yp, yq, yr, yt, yu, yw, yx, yy, yz, qA, qB, qC, qD, qE, qF, qG, qH, qI, qJ, qK, qL, qM, qN, qO, qP, qQ, qR, qS, qT, qU, qV, bltD, idxD, negD, itemsD, isiD, if_true, Bool.false_eq_true, if_false, Bool.not_true, Bool.not_false, List.length_cons, List.length_nil, Nat.zero_add, Nat.reduceAdd, lk0, lk1, lk2, lk3, lk4, lk5, lk6, lk7, lk8, lk9, lk10, lk11, lk12, lk13, lk14, lk15, lk16, lk17, lk18, lk19, lk20, lk21, lk22, lk23, lk24, lk25, lk26, lk27, lk28, lk29, lk30, lk31, lk32, ix0, ix1, ix2, Int.reduceLT, Int.reduceLE, eq_self, decide_true, decide_false, p6, o6, e1, Int.reduceNeg] <;> with_reducible rfl) ?_
  refine OkX.step (by simp only [zA, zB, zC, zD, zE, zF, zG, zH, zI, zJ, zK, zL, zM, zN, zO, zP, zQ, zR, zS, zT, zU, zV, zW, zX, zY, zZ, za, zb, zc, zd, ze, zf, zg, zh, zi, zj, zk, zl, zm, mkR_ok, zn, eq_self, Option.isNone_none, List.zip_cons_cons, List.zip_nil_left, zo, zp, zq, zr, Bool.true_or, Bool.or_true, zt, zu, zv, zw, zx, zy, zz, yA, yB, yC, yD, yE, yF, yG, yH, yI, yJ, yK, yL, yM, yN, yO, yP, evs, evds, evx, evI, evIs, sets, dl, lend, varT, data, dat, opt, tst, truD, yQ, yR, yS, yT, List.getD_cons_zero, List.getD_cons_succ, List.set_cons_zero, List.set_cons_succ, List.map_cons, List.map_nil, Option.map_some, Option.bind_some, yU, yV, yX, yY, yZ, ya, yc, yd, ye, yf, yg, yh, yi, yj, yk, yl, ym, yn, yo, yp, yq, yr, yt, yu, yw, yx, yy, yz, qA, qB, qC, qD, qE, qF, qG, qH, qI, qJ, qK, qL, qM, qN, qO, qP, qQ, qR, qS, qT, qU, qV, bltD, idxD, negD, itemsD, isiD, if_true, Bool.false_eq_true, if_false, Bool.not_true, Bool.not_false, List.length_cons, List.length_nil, Nat.zero_add, Nat.reduceAdd, lk0, lk1, lk2, lk3, lk4, lk5, lk6, lk7, lk8, lk9, lk10, lk11, lk12, lk13, lk14, lk15, lk16, lk17, lk18, lk19, lk20, lk21, lk22, lk23, lk24, lk25, lk26, lk27, lk28, lk29, lk30, lk31, lk32, ix0, ix1, ix2, Int.reduceLT, Int.reduceLE, eq_self, decide_true, decide_false, p39, o39, e2, Int.reduceNeg] <;> with_reducible rfl) ?_
  refine OkX.step (by simp only [zA, zB, zC, zD, zE, zF, zG, zH, zI, zJ, zK, zL, zM, zN, zO, zP, zQ, zR, zS, zT, zU, zV, zW, zX, zY, zZ, za, zb, zc, zd, ze, zf, zg, zh, zi, zj, zk, zl, zm, mkR_ok, zn, eq_self, Option.isNone_none, List.zip_cons_cons, List.zip_nil_left, zo, zp, zq, zr, Bool.true_or, Bool.or_true, zt, zu, zv, zw, zx, zy, zz, yA, yB, yC, yD, yE, yF, yG, yH, yI, yJ, yK, yL, yM, yN, yO, yP, evs, evds, evx, evI, evIs, sets, dl, lend, varT, data, dat, opt, tst, truD, yQ, yR, yS, yT, List.getD_cons_zero, List.getD_cons_succ, List.set_cons_zero, List.set_cons_succ, List.map_cons, List.map_nil, Option.map_some, Option.bind_some, yU, yV, yX, yY, yZ, ya, yc, yd, ye, yf, yg, yh, yi, yj, yk, yl, ym, yn, yo, yp, yq, yr, yt, yu, yw, yx, yy, yz, qA, qB, qC, qD, qE, qF, qG, qH, qI, qJ, qK, qL, qM, qN, qO, qP, qQ, qR, qS, qT, qU, qV, bltD, idxD, negD, itemsD, isiD, if_true, Bool.false_eq_true, if_false, Bool.not_true, Bool.not_false, List.length_cons, List.length_nil, Nat.zero_add, Nat.reduceAdd, lk0, lk1, lk2, lk3, lk4, lk5, lk6, lk7, lk8, lk9, lk10, lk11, lk12, lk13, lk14, lk15, lk16, lk17, lk18, lk19, lk20, lk21, lk22, lk23, lk24, lk25, lk26, lk27, lk28, lk29, lk30, lk31, lk32, ix0, ix1, ix2, Int.reduceLT, Int.reduceLE, eq_self, decide_true, decide_false, e3] <;> with_reducible rfl) ?_
  by_cases c : 2 < q
  · exact OkX.cons ⟨.rt (.d (.tuple [x, y])), _, k3, by simp only [zA, zB, zC, zD, zE, zF, zG, zH, zI, zJ, zK, zL, zM, zN, zO, zP, zQ, zR, zS, zT, zU, zV, zW, zX, zY, zZ, za, zb, zc, zd, ze, zf, zg, zh, zi, zj, zk, zl, zm, mkR_ok, zn, eq_self, Option.isNone_none, List.zip_cons_cons, List.zip_nil_left, zo, zp, zq, zr, Bool.true_or, Bool.or_true, zt, zu, zv, zw, zx, zy, zz, yA, yB, yC, yD, yE, yF, yG, yH, yI, yJ, yK, yL, yM, yN, yO, yP, evs, evds, evx, evI, evIs, sets, dl, lend, varT, data, dat, opt, tst, truD, yQ, yR, yS, yT, List.getD_cons_zero, List.getD_cons_succ, List.set_cons_zero, List.set_cons_succ, List.map_cons, List.map_nil, Option.map_some, Option.bind_some, yU, yV, yX, yY, yZ, ya, yc, yd, ye, yf, yg, yh, yi, yj, yk, yl, ym, yn, yo, yp, yq, yr, yt, yu, yw, yx, yy, yz, qA, qB, qC, qD, qE, qF, qG, qH, qI, qJ, qK, qL, qM, qN, qO, qP, qQ, qR, qS, qT, qU, qV, bltD, idxD, negD, itemsD, isiD, if_true, Bool.false_eq_true, if_false, Bool.not_true, Bool.not_false, List.length_cons, List.length_nil, Nat.zero_add, Nat.reduceAdd, lk0, lk1, lk2, lk3, lk4, lk5, lk6, lk7, lk8, lk9, lk10, lk11, lk12, lk13, lk14, lk15, lk16, lk17, lk18, lk19, lk20, lk21, lk22, lk23, lk24, lk25, lk26, lk27, lk28, lk29, lk30, lk31, lk32, ix0, ix1, ix2, Int.reduceLT, Int.reduceLE, eq_self, decide_true, decide_false, decide_eq_true c] <;> rfl, d3, _, rfl, (p2 rx ry).mono (by decide) (by decide)⟩
  · refine OkX.step (k' := k3) (by simp only [zA, zB, zC, zD, zE, zF, zG, zH, zI, zJ, zK, zL, zM, zN, zO, zP, zQ, zR, zS, zT, zU, zV, zW, zX, zY, zZ, za, zb, zc, zd, ze, zf, zg, zh, zi, zj, zk, zl, zm, mkR_ok, zn, eq_self, Option.isNone_none, List.zip_cons_cons, List.zip_nil_left, zo, zp, zq, zr, Bool.true_or, Bool.or_true, zt, zu, zv, zw, zx, zy, zz, yA, yB, yC, yD, yE, yF, yG, yH, yI, yJ, yK, yL, yM, yN, yO, yP, evs, evds, evx, evI, evIs, sets, dl, lend, varT, data, dat, opt, tst, truD, yQ, yR, yS, yT, List.getD_cons_zero, List.getD_cons_succ, List.set_cons_zero, List.set_cons_succ, List.map_cons, List.map_nil, Option.map_some, Option.bind_some, yU, yV, yX, yY, yZ, ya, yc, yd, ye, yf, yg, yh, yi, yj, yk, yl, ym, yn, yo, yp, yq, yr, yt, yu, yw, yx, yy, yz, qA, qB, qC, qD, qE, qF, qG, qH, qI, qJ, qK, qL, qM, qN, qO, qP, qQ, qR, qS, qT, qU, qV, bltD, idxD, negD, itemsD, isiD, if_true, Bool.false_eq_true, if_false, Bool.not_true, Bool.not_false, List.length_cons, List.length_nil, Nat.zero_add, Nat.reduceAdd, lk0, lk1, lk2, lk3, lk4, lk5, lk6, lk7, lk8, lk9, lk10, lk11, lk12, lk13, lk14, lk15, lk16, lk17, lk18, lk19, lk20, lk21, lk22, lk23, lk24, lk25, lk26, lk27, lk28, lk29, lk30, lk31, lk32, ix0, ix1, ix2, Int.reduceLT, Int.reduceLE, eq_self, decide_true, decide_false, decide_eq_false c] <;> rfl) ?_
    by_cases c2 : q = 2
    · obtain ⟨z, k4, e4, d4, v, hv, rfl⟩ := s_pick (W := W) (fuel := fuel) (n := n) (k := k3) (xs := [.tuple [x, y, .int 0], .tuple [x], .list [x, y], .tuple [.tuple [x, y]], .tuple [.str sx, y], .tuple [x, .str sy], .tuple [y, x], .tuple [.tuple [x], y], .tuple [x, .none]]) (by simp) (by simp) d3
      refine OkX.cons ⟨.rt (.d v), _, k4, by
        simp only [zA, zB, zC, zD, zE, zF, zG, zH, zI, zJ, zK, zL, zM, zN, zO, zP, zQ, zR, zS, zT, zU, zV, zW, zX, zY, zZ, za, zb, zc, zd, ze, zf, zg, zh, zi, zj, zk, zl, zm, mkR_ok, zn, eq_self, Option.isNone_none, List.zip_cons_cons, List.zip_nil_left, zo, zp, zq, zr, Bool.true_or, Bool.or_true, zt, zu, zv, zw, zx, zy, zz, yA, yB, yC, yD, yE, yF, yG, yH, yI, yJ, yK, yL, yM, yN, yO, yP, evs, evds, evx, evI, evIs, sets, dl, lend, varT, data, dat, opt, tst, truD, yQ, yR, yS, yT, List.getD_cons_zero, List.getD_cons_succ, List.set_cons_zero, List.set_cons_succ, List.map_cons, List.map_nil, Option.map_some, Option.bind_some, yU, yV, yX, yY, yZ, ya, yc, yd, ye, yf, yg, yh, yi, yj, yk, yl, ym, yn, yo, yp, yq, yr, yt, yu, yw, yx, yy, yz, qA, qB, qC, qD, qE, qF, qG, qH, qI, qJ, qK, qL, qM, qN, qO, qP, qQ, qR, qS, qT, qU, qV, bltD, idxD, negD, itemsD, isiD, if_true, Bool.false_eq_true, if_false, Bool.not_true, Bool.not_false, ex, ey, decide_eq_true c2, lk1, lk2, lk3, lk9, List.length_cons, List.length_nil, Nat.zero_add, Nat.reduceAdd, e4, -bltD] <;> rfl, d4, v, rfl, ?_⟩
      simp only [List.mem_cons, List.not_mem_nil, or_false] at hv
      rcases hv with rfl | rfl | rfl | rfl | rfl | rfl | rfl | rfl | rfl
      · exact (rep_tuple (repA_cons rx (repA_cons ry (repA_cons (r40 0 (by decide) (by decide)) repA_nil)))).mono (by decide) (by decide)
      · exact (rep_tuple (repA_cons rx repA_nil)).mono (by decide) (by decide)
      · exact (rep_list (repA_cons rx (repA_cons ry repA_nil))).mono (by decide) (by decide)
      · exact (rep_tuple (repA_cons (p2 rx ry) repA_nil)).mono (by decide) (by decide)
      · exact (p2 rsx ry).mono (by decide) (by decide)
      · exact (p2 rx rsy).mono (by decide) (by decide)
      · exact (p2 ry rx).mono (by decide) (by decide)
      · exact (p2 (rep_tuple (repA_cons rx repA_nil)) ry).mono (by decide) (by decide)
      · exact (p2 rx rep_none).mono (by decide) (by decide)
    · refine OkX.step (k' := k3) (by simp only [zA, zB, zC, zD, zE, zF, zG, zH, zI, zJ, zK, zL, zM, zN, zO, zP, zQ, zR, zS, zT, zU, zV, zW, zX, zY, zZ, za, zb, zc, zd, ze, zf, zg, zh, zi, zj, zk, zl, zm, mkR_ok, zn, eq_self, Option.isNone_none, List.zip_cons_cons, List.zip_nil_left, zo, zp, zq, zr, Bool.true_or, Bool.or_true, zt, zu, zv, zw, zx, zy, zz, yA, yB, yC, yD, yE, yF, yG, yH, yI, yJ, yK, yL, yM, yN, yO, yP, evs, evds, evx, evI, evIs, sets, dl, lend, varT, data, dat, opt, tst, truD, yQ, yR, yS, yT, List.getD_cons_zero, List.getD_cons_succ, List.set_cons_zero, List.set_cons_succ, List.map_cons, List.map_nil, Option.map_some, Option.bind_some, yU, yV, yX, yY, yZ, ya, yc, yd, ye, yf, yg, yh, yi, yj, yk, yl, ym, yn, yo, yp, yq, yr, yt, yu, yw, yx, yy, yz, qA, qB, qC, qD, qE, qF, qG, qH, qI, qJ, qK, qL, qM, qN, qO, qP, qQ, qR, qS, qT, qU, qV, bltD, idxD, negD, itemsD, isiD, if_true, Bool.false_eq_true, if_false, Bool.not_true, Bool.not_false, List.length_cons, List.length_nil, Nat.zero_add, Nat.reduceAdd, lk0, lk1, lk2, lk3, lk4, lk5, lk6, lk7, lk8, lk9, lk10, lk11, lk12, lk13, lk14, lk15, lk16, lk17, lk18, lk19, lk20, lk21, lk22, lk23, lk24, lk25, lk26, lk27, lk28, lk29, lk30, lk31, lk32, ix0, ix1, ix2, Int.reduceLT, Int.reduceLE, eq_self, decide_true, decide_false, decide_eq_false c2] <;> rfl) ?_
      have k0 : dctD [] [] = some (.dict []) := by rfl
      have k2' : dctD [.int 2] [.int 2] = some (.dict [(.int 2, .int 2)]) := by rfl
      obtain ⟨z, k4, e4, d4, v, hv, rfl⟩ := s_pick (W := W) (fuel := fuel) (n := n) (k := k3) (xs := [.none, .bool true, .bool false, .int 0, .int 2, .str "", .str "(2, 2)", .tuple [], .list [], .dict [], .dict [(.int 2, .int 2)], .tuple [.tuple [], .tuple []], .int 1000000000000000000000000000000000000000, .int (-1), .str "22", .tuple [.int 2, .int 2, .int 2]]) (by simp) (by simp) d3
      refine OkX.cons ⟨.rt (.d v), _, k4, by simp only [zA, zB, zC, zD, zE, zF, zG, zH, zI, zJ, zK, zL, zM, zN, zO, zP, zQ, zR, zS, zT, zU, zV, zW, zX, zY, zZ, za, zb, zc, zd, ze, zf, zg, zh, zi, zj, zk, zl, zm, mkR_ok, zn, eq_self, Option.isNone_none, List.zip_cons_cons, List.zip_nil_left, zo, zp, zq, zr, Bool.true_or, Bool.or_true, zt, zu, zv, zw, zx, zy, zz, yA, yB, yC, yD, yE, yF, yG, yH, yI, yJ, yK, yL, yM, yN, yO, yP, evs, evds, evx, evI, evIs, sets, dl, lend, varT, data, dat, opt, tst, truD, yQ, yR, yS, yT, List.getD_cons_zero, List.getD_cons_succ, List.set_cons_zero, List.set_cons_succ, List.map_cons, List.map_nil, Option.map_some, Option.bind_some, yU, yV, yX, yY, yZ, ya, yc, yd, ye, yf, yg, yh, yi, yj, yk, yl, ym, yn, yo, yp, yq, yr, yt, yu, yw, yx, yy, yz, qA, qB, qC, qD, qE, qF, qG, qH, qI, qJ, qK, qL, qM, qN, qO, qP, qQ, qR, qS, qT, qU, qV, bltD, idxD, negD, itemsD, isiD, if_true, Bool.false_eq_true, if_false, Bool.not_true, Bool.not_false, List.length_cons, List.length_nil, Nat.zero_add, Nat.reduceAdd, lk0, lk1, lk2, lk3, lk4, lk5, lk6, lk7, lk8, lk9, lk10, lk11, lk12, lk13, lk14, lk15, lk16, lk17, lk18, lk19, lk20, lk21, lk22, lk23, lk24, lk25, lk26, lk27, lk28, lk29, lk30, lk31, lk32, ix0, ix1, ix2, Int.reduceLT, Int.reduceLE, eq_self, decide_true, decide_false, p39, o39, k0, k2', e4, Int.reduceNeg] <;> rfl, d4, v, rfl, ?_⟩
      simp only [List.mem_cons, List.not_mem_nil, or_false] at hv
      rcases hv with rfl | rfl | rfl | rfl | rfl | rfl | rfl | rfl | rfl | rfl | rfl | rfl | rfl | rfl | rfl | rfl
      all_goals exact ⟨by decide, by decide +kernel, by decide⟩
end
variable {W : Wd} [Draw W] [Deck W] [E_p_two W] [E_p_is_integer W] [E_p_is_tuple W] [E_p_is_scheme_value W] [E_p_need_scheme W] [E_p_fraction W] [E_p_is_scheme W] [E_p_bound W] [E_law_pick_fa54 W] [E_law_power W] [E_law_two W] [E_law_is_int_7e02 W] [E_law_is_tuple W] [E_law_is_scheme_8282 W] [E_law_bound W] [E_law_tried_a214 W] [E_law_any_56cc W] [E_lawk00 W] [E_lawk00_l0 W] [E_lawk00_l1 W] [Sub W [("DividerError", "DividerError"), ("BadScheme", "DividerError"), ("BadScheme", "BadScheme"), (".thing", "BadScheme")]]
theorem subX : W.sub "BadScheme" "BadScheme" = true := by rw [Sub.eq (W := W)]; decide
theorem subF : W.sub ".thing" "BadScheme" = true := by rw [Sub.eq (W := W)]; decide
theorem bd_rep {r a : Int} (h : Sc r a) : Rep (bd r a) 100 1 := by
  have r40 : ∀ i : Int, -1000000000000 ≤ i → i ≤ 1000000000000 → Rep (.int i) 42 0 := fun i h1 h2 => rep_40 h1 h2
  have h2 : ∀ i j : Int, -1000 ≤ i → i ≤ 1000 → -1000 ≤ j → j ≤ 1000 → Rep (.tuple [.int i, .int j]) 100 1 := fun i j a b c d => (rep_tuple (repA_cons (r40 i (by omega) (by omega)) (repA_cons (r40 j (by omega) (by omega)) repA_nil))).mono (by decide) (by decide)
  rcases h with ⟨rfl, rfl⟩ | ⟨rfl, rfl⟩ | ⟨rfl, rfl⟩ | ⟨rfl, rfl⟩ | ⟨rfl, rfl⟩ | ⟨rfl, rfl⟩ | ⟨rfl, rfl⟩
  all_goals exact h2 _ _ (by decide) (by decide) (by decide) (by decide)
abbrev T0 (L s2 s3 s4 s5 s6 s7 : Option Sl) : Tau := [L, some .deck, s2, s3, s4, s5, s6, s7]
theorem plainW {ns : List Int} (hn : ns.length ≤ 63) : ∃ k, W.ph 0 40 19 [.d (.list (ns.map PyData.int))] none = .ok (.d (.bool true)) k := by
  obtain ⟨s, k, e, rfl, hd⟩ := Deck.ok (W := W) (fuel := 0) (n := 38) hn
  refine okT ?_
  rw [u_lawk00]
  refine OkE.fin ?_
  unfold i_lawk00
  refine OkX.step (by simp only [zA, zB, zC, zD, zE, zF, zG, zH, zI, zJ, zK, zL, zM, zN, zO, zP, zQ, zR, zS, zT, zU, zV, zW, zX, zY, zZ, za, zb, zc, zd, ze, zf, zg, zh, zi, zj, zk, zl, zm, mkR_ok, zn, eq_self, Option.isNone_none, List.zip_cons_cons, List.zip_nil_left, zo, zp, zq, zr, Bool.true_or, Bool.or_true, zt, zu, zv, zw, zx, zy, zz, yA, yB, yC, yD, yE, yF, yG, yH, yI, yJ, yK, yL, yM, yN, yO, yP, evs, evds, evx, evI, evIs, sets, dl, lend, varT, data, dat, opt, tst, truD, yQ, yR, yS, yT, List.getD_cons_zero, List.getD_cons_succ, List.set_cons_zero, List.set_cons_succ, List.map_cons, List.map_nil, Option.map_some, Option.bind_some, yU, yV, yX, yY, yZ, ya, yc, yd, ye, yf, yg, yh, yi, yj, yk, yl, ym, yn, yo, yp, yq, yr, yt, yu, yw, yx, yy, yz, qA, qB, qC, qD, qE, qF, qG, qH, qI, qJ, qK, qL, qM, qN, qO, qP, qQ, qR, qS, qT, qU, qV, bltD, idxD, negD, itemsD, isiD, if_true, Bool.false_eq_true, if_false, Bool.not_true, Bool.not_false, List.length_cons, List.length_nil, Nat.zero_add, Nat.reduceAdd, lk0, lk1, lk2, lk3, lk4, lk5, lk6, lk7, lk8, lk9, lk10, lk11, lk12, lk13, lk14, lk15, lk16, lk17, lk18, lk19, lk20, lk21, lk22, lk23, lk24, lk25, lk26, lk27, lk28, lk29, lk30, lk31, lk32, ix0, ix1, ix2, Int.reduceLT, Int.reduceLE, eq_self, decide_true, decide_false, e] <;> with_reducible rfl) ?_
  have rB : ∀ b : Bool, (PyData.showable (.bool b) && lenOk (PyData.shown (.bool b)).length && decide (PyData.depth (.bool b) ≤ 60)) = true := fun b => shows_of (rep_bool (b := b)) (by decide) (by decide)
  have rS : ∀ s : Str, s = "returned" ∨ s = "BadScheme" → Rep (.str s) 100 0 := fun s h => by
    rcases h with rfl | rfl <;> exact ⟨by decide, by decide +kernel, by decide⟩
  refine OkX.loop (rngL 0 14) (fun i t k => dkO W k ∧ ∃ s2 s4 s5 s6 s7, t = T0 (some (.d (.list (ns.map PyData.int)))) s2 none s4 s5 s6 s7) rfl (k' := k) (evi_rng (by decide)) ⟨hd, _, _, _, _, _, rfl⟩ ?_ ?_
  · rintro i y t k hy ⟨hd, s2, s4, s5, s6, s7, rfl⟩
    obtain ⟨_, rfl⟩ := rngL_at hy
    refine ⟨_, rfl, ?_⟩
    obtain ⟨z, k1, e1, d1, d, rfl, rd⟩ := s_any (W := W) (fuel := 0) (n := 36) (k := k) hd
    have e2 := s_lschv (W := W) (fuel := 0) (n := 36) (k := k1) d
    have e3 := s_isch (W := W) (fuel := 0) (n := 36) (k := k1) d
    refine OkX.step (by simp only [zA, zB, zC, zD, zE, zF, zG, zH, zI, zJ, zK, zL, zM, zN, zO, zP, zQ, zR, zS, zT, zU, zV, zW, zX, zY, zZ, za, zb, zc, zd, ze, zf, zg, zh, zi, zj, zk, zl, zm, mkR_ok, zn, eq_self, Option.isNone_none, List.zip_cons_cons, List.zip_nil_left, zo, zp, zq, zr, Bool.true_or, Bool.or_true, zt, zu, zv, zw, zx, zy, zz, yA, yB, yC, yD, yE, yF, yG, yH, yI, yJ, yK, yL, yM, yN, yO, yP, evs, evds, evx, evI, evIs, sets, dl, lend, varT, data, dat, opt, tst, truD, yQ, yR, yS, yT, List.getD_cons_zero, List.getD_cons_succ, List.set_cons_zero, List.set_cons_succ, List.map_cons, List.map_nil, Option.map_some, Option.bind_some, yU, yV, yX, yY, yZ, ya, yc, yd, ye, yf, yg, yh, yi, yj, yk, yl, ym, yn, yo, yp, yq, yr, yt, yu, yw, yx, yy, yz, qA, qB, qC, qD, qE, qF, qG, qH, qI, qJ, qK, qL, qM, qN, qO, qP, qQ, qR, qS, qT, qU, qV, bltD, idxD, negD, itemsD, isiD, if_true, Bool.false_eq_true, if_false, Bool.not_true, Bool.not_false, List.length_cons, List.length_nil, Nat.zero_add, Nat.reduceAdd, lk0, lk1, lk2, lk3, lk4, lk5, lk6, lk7, lk8, lk9, lk10, lk11, lk12, lk13, lk14, lk15, lk16, lk17, lk18, lk19, lk20, lk21, lk22, lk23, lk24, lk25, lk26, lk27, lk28, lk29, lk30, lk31, lk32, ix0, ix1, ix2, Int.reduceLT, Int.reduceLE, eq_self, decide_true, decide_false, e1] <;> with_reducible rfl) ?_
    refine OkX.step (by simp only [zA, zB, zC, zD, zE, zF, zG, zH, zI, zJ, zK, zL, zM, zN, zO, zP, zQ, zR, zS, zT, zU, zV, zW, zX, zY, zZ, za, zb, zc, zd, ze, zf, zg, zh, zi, zj, zk, zl, zm, mkR_ok, zn, eq_self, Option.isNone_none, List.zip_cons_cons, List.zip_nil_left, zo, zp, zq, zr, Bool.true_or, Bool.or_true, zt, zu, zv, zw, zx, zy, zz, yA, yB, yC, yD, yE, yF, yG, yH, yI, yJ, yK, yL, yM, yN, yO, yP, evs, evds, evx, evI, evIs, sets, dl, lend, varT, data, dat, opt, tst, truD, yQ, yR, yS, yT, List.getD_cons_zero, List.getD_cons_succ, List.set_cons_zero, List.set_cons_succ, List.map_cons, List.map_nil, Option.map_some, Option.bind_some, yU, yV, yX, yY, yZ, ya, yc, yd, ye, yf, yg, yh, yi, yj, yk, yl, ym, yn, yo, yp, yq, yr, yt, yu, yw, yx, yy, yz, qA, qB, qC, qD, qE, qF, qG, qH, qI, qJ, qK, qL, qM, qN, qO, qP, qQ, qR, qS, qT, qU, qV, bltD, idxD, negD, itemsD, isiD, if_true, Bool.false_eq_true, if_false, Bool.not_true, Bool.not_false, List.length_cons, List.length_nil, Nat.zero_add, Nat.reduceAdd, lk0, lk1, lk2, lk3, lk4, lk5, lk6, lk7, lk8, lk9, lk10, lk11, lk12, lk13, lk14, lk15, lk16, lk17, lk18, lk19, lk20, lk21, lk22, lk23, lk24, lk25, lk26, lk27, lk28, lk29, lk30, lk31, lk32, ix0, ix1, ix2, Int.reduceLT, Int.reduceLE, eq_self, decide_true, decide_false, e2] <;> with_reducible rfl) ?_
    refine OkX.step (t' := T0 (some (.d (.list (ns.map PyData.int)))) (some (.d (.int (0 + (i : Nat))))) none (some (.d d)) (some (.d (.bool (schB d)))) (some (.d (.bool (schB d)))) s7) (k' := k1) (by
      rcases Bool.eq_false_or_eq_true (decide ((0 + (i : Nat) : Int) = 0)) with c | c
      · simp only [zA, zB, zC, zD, zE, zF, zG, zH, zI, zJ, zK, zL, zM, zN, zO, zP, zQ, zR, zS, zT, zU, zV, zW, zX, zY, zZ, za, zb, zc, zd, ze, zf, zg, zh, zi, zj, zk, zl, zm, mkR_ok, zn, eq_self, Option.isNone_none, List.zip_cons_cons, List.zip_nil_left, zo, zp, zq, zr, Bool.true_or, Bool.or_true, zt, zu, zv, zw, zx, zy, zz, yA, yB, yC, yD, yE, yF, yG, yH, yI, yJ, yK, yL, yM, yN, yO, yP, evs, evds, evx, evI, evIs, sets, dl, lend, varT, data, dat, opt, tst, truD, yQ, yR, yS, yT, List.getD_cons_zero, List.getD_cons_succ, List.set_cons_zero, List.set_cons_succ, List.map_cons, List.map_nil, Option.map_some, Option.bind_some, yU, yV, yX, yY, yZ, ya, yc, yd, ye, yf, yg, yh, yi, yj, yk, yl, ym, yn, yo, yp, yq, yr, yt, yu, yw, yx, yy, yz, qA, qB, qC, qD, qE, qF, qG, qH, qI, qJ, qK, qL, qM, qN, qO, qP, qQ, qR, qS, qT, qU, qV, bltD, idxD, negD, itemsD, isiD, if_true, Bool.false_eq_true, if_false, Bool.not_true, Bool.not_false, List.length_cons, List.length_nil, Nat.zero_add, Nat.reduceAdd, lk0, lk1, lk2, lk3, lk4, lk5, lk6, lk7, lk8, lk9, lk10, lk11, lk12, lk13, lk14, lk15, lk16, lk17, lk18, lk19, lk20, lk21, lk22, lk23, lk24, lk25, lk26, lk27, lk28, lk29, lk30, lk31, lk32, ix0, ix1, ix2, Int.reduceLT, Int.reduceLE, eq_self, decide_true, decide_false, c, e3]
      · simp only [zA, zB, zC, zD, zE, zF, zG, zH, zI, zJ, zK, zL, zM, zN, zO, zP, zQ, zR, zS, zT, zU, zV, zW, zX, zY, zZ, za, zb, zc, zd, ze, zf, zg, zh, zi, zj, zk, zl, zm, mkR_ok, zn, eq_self, Option.isNone_none, List.zip_cons_cons, List.zip_nil_left, zo, zp, zq, zr, Bool.true_or, Bool.or_true, zt, zu, zv, zw, zx, zy, zz, yA, yB, yC, yD, yE, yF, yG, yH, yI, yJ, yK, yL, yM, yN, yO, yP, evs, evds, evx, evI, evIs, sets, dl, lend, varT, data, dat, opt, tst, truD, yQ, yR, yS, yT, List.getD_cons_zero, List.getD_cons_succ, List.set_cons_zero, List.set_cons_succ, List.map_cons, List.map_nil, Option.map_some, Option.bind_some, yU, yV, yX, yY, yZ, ya, yc, yd, ye, yf, yg, yh, yi, yj, yk, yl, ym, yn, yo, yp, yq, yr, yt, yu, yw, yx, yy, yz, qA, qB, qC, qD, qE, qF, qG, qH, qI, qJ, qK, qL, qM, qN, qO, qP, qQ, qR, qS, qT, qU, qV, bltD, idxD, negD, itemsD, isiD, if_true, Bool.false_eq_true, if_false, Bool.not_true, Bool.not_false, List.length_cons, List.length_nil, Nat.zero_add, Nat.reduceAdd, lk0, lk1, lk2, lk3, lk4, lk5, lk6, lk7, lk8, lk9, lk10, lk11, lk12, lk13, lk14, lk15, lk16, lk17, lk18, lk19, lk20, lk21, lk22, lk23, lk24, lk25, lk26, lk27, lk28, lk29, lk30, lk31, lk32, ix0, ix1, ix2, Int.reduceLT, Int.reduceLE, eq_self, decide_true, decide_false, c, e3]) ?_
    refine OkX.step (by simp only [zA, zB, zC, zD, zE, zF, zG, zH, zI, zJ, zK, zL, zM, zN, zO, zP, zQ, zR, zS, zT, zU, zV, zW, zX, zY, zZ, za, zb, zc, zd, ze, zf, zg, zh, zi, zj, zk, zl, zm, mkR_ok, zn, eq_self, Option.isNone_none, List.zip_cons_cons, List.zip_nil_left, zo, zp, zq, zr, Bool.true_or, Bool.or_true, zt, zu, zv, zw, zx, zy, zz, yA, yB, yC, yD, yE, yF, yG, yH, yI, yJ, yK, yL, yM, yN, yO, yP, evs, evds, evx, evI, evIs, sets, dl, lend, varT, data, dat, opt, tst, truD, yQ, yR, yS, yT, List.getD_cons_zero, List.getD_cons_succ, List.set_cons_zero, List.set_cons_succ, List.map_cons, List.map_nil, Option.map_some, Option.bind_some, yU, yV, yX, yY, yZ, ya, yc, yd, ye, yf, yg, yh, yi, yj, yk, yl, ym, yn, yo, yp, yq, yr, yt, yu, yw, yx, yy, yz, qA, qB, qC, qD, qE, qF, qG, qH, qI, qJ, qK, qL, qM, qN, qO, qP, qQ, qR, qS, qT, qU, qV, bltD, idxD, negD, itemsD, isiD, if_true, Bool.false_eq_true, if_false, Bool.not_true, Bool.not_false, List.length_cons, List.length_nil, Nat.zero_add, Nat.reduceAdd, lk0, lk1, lk2, lk3, lk4, lk5, lk6, lk7, lk8, lk9, lk10, lk11, lk12, lk13, lk14, lk15, lk16, lk17, lk18, lk19, lk20, lk21, lk22, lk23, lk24, lk25, lk26, lk27, lk28, lk29, lk30, lk31, lk32, ix0, ix1, ix2, Int.reduceLT, Int.reduceLE, eq_self, decide_true, decide_false, rB] <;> with_reducible rfl) ?_
    cases hb : schB d with
    | true =>
      obtain ⟨r, a, hs, rfl⟩ := sc_of hb
      have eb := s_bound (W := W) (fuel := 0) (n := 33) (k := k1) hs
      have el := s_lbound (W := W) (fuel := 0) (n := 36) (k := k1) hs
      have rp := shows_of (rep_tuple (repA_cons (rS "returned" (.inl rfl)) (repA_cons (bd_rep hs) repA_nil))) (by decide) (by decide)
      have t0 := fun (t : Tau) (h : W.ph 0 38 100380 [.clo 100380 t] k1 = .ok (.d (bd r a)) k1) => s_triedO0 (W := W) (fuel := 0) (n := 38) (k := k1) (k' := k1) (j := 100380) (t := t) (v := bd r a) h
      have t1 := fun (t : Tau) (h : W.ph 0 38 100381 [.clo 100381 t] k1 = .ok (.d (bd r a)) k1) => s_triedO0 (W := W) (fuel := 0) (n := 38) (k := k1) (k' := k1) (j := 100381) (t := t) (v := bd r a) h
      have l0 := fun s7 => t0 (T0 (some (.d (.list (ns.map PyData.int)))) (some (.d (.int (0 + (i : Nat))))) none (some (.d (sch r a))) (some (.d (.bool true))) (some (.d (.bool true))) s7) (by
        rw [u_lawk00_l0]
        unfold i_lawk00_l0
        simp only [zA, zB, zC, zD, zE, zF, zG, zH, zI, zJ, zK, zL, zM, zN, zO, zP, zQ, zR, zS, zT, zU, zV, zW, zX, zY, zZ, za, zb, zc, zd, ze, zf, zg, zh, zi, zj, zk, zl, zm, mkR_ok, zn, eq_self, Option.isNone_none, List.zip_cons_cons, List.zip_nil_left, zo, zp, zq, zr, Bool.true_or, Bool.or_true, zt, zu, zv, zw, zx, zy, zz, yA, yB, yC, yD, yE, yF, yG, yH, yI, yJ, yK, yL, yM, yN, yO, yP, evs, evds, evx, evI, evIs, sets, dl, lend, varT, data, dat, opt, tst, truD, yQ, yR, yS, yT, List.getD_cons_zero, List.getD_cons_succ, List.set_cons_zero, List.set_cons_succ, List.map_cons, List.map_nil, Option.map_some, Option.bind_some, yU, yV, yX, yY, yZ, ya, yc, yd, ye, yf, yg, yh, yi, yj, yk, yl, ym, yn, yo, yp, yq, yr, yt, yu, yw, yx, yy, yz, qA, qB, qC, qD, qE, qF, qG, qH, qI, qJ, qK, qL, qM, qN, qO, qP, qQ, qR, qS, qT, qU, qV, bltD, idxD, negD, itemsD, isiD, if_true, Bool.false_eq_true, if_false, Bool.not_true, Bool.not_false, Rs.bind_ex, Rs.thn_ex, Xs.bind_ex, e_xat, e_isx, e_lamc, x_lamb, noEx, handle, noX, noXf, xS, if_pos, List.length_cons, List.length_nil, Nat.zero_add, Nat.reduceAdd, lk0, lk1, lk2, lk3, lk4, lk5, lk6, lk7, lk8, lk9, lk10, lk11, lk12, lk13, lk14, lk15, lk16, lk17, lk18, lk19, lk20, lk21, lk22, lk23, lk24, lk25, lk26, lk27, lk28, lk29, lk30, lk31, lk32, ix0, ix1, ix2, Int.reduceLT, Int.reduceLE, eq_self, decide_true, decide_false, eb])
      have l1 := fun s7 => t1 (T0 (some (.d (.list (ns.map PyData.int)))) (some (.d (.int (0 + (i : Nat))))) none (some (.d (sch r a))) (some (.d (.bool true))) (some (.d (.bool true))) s7) (by
        rw [u_lawk00_l1]
        unfold i_lawk00_l1
        simp only [zA, zB, zC, zD, zE, zF, zG, zH, zI, zJ, zK, zL, zM, zN, zO, zP, zQ, zR, zS, zT, zU, zV, zW, zX, zY, zZ, za, zb, zc, zd, ze, zf, zg, zh, zi, zj, zk, zl, zm, mkR_ok, zn, eq_self, Option.isNone_none, List.zip_cons_cons, List.zip_nil_left, zo, zp, zq, zr, Bool.true_or, Bool.or_true, zt, zu, zv, zw, zx, zy, zz, yA, yB, yC, yD, yE, yF, yG, yH, yI, yJ, yK, yL, yM, yN, yO, yP, evs, evds, evx, evI, evIs, sets, dl, lend, varT, data, dat, opt, tst, truD, yQ, yR, yS, yT, List.getD_cons_zero, List.getD_cons_succ, List.set_cons_zero, List.set_cons_succ, List.map_cons, List.map_nil, Option.map_some, Option.bind_some, yU, yV, yX, yY, yZ, ya, yc, yd, ye, yf, yg, yh, yi, yj, yk, yl, ym, yn, yo, yp, yq, yr, yt, yu, yw, yx, yy, yz, qA, qB, qC, qD, qE, qF, qG, qH, qI, qJ, qK, qL, qM, qN, qO, qP, qQ, qR, qS, qT, qU, qV, bltD, idxD, negD, itemsD, isiD, if_true, Bool.false_eq_true, if_false, Bool.not_true, Bool.not_false, Rs.bind_ex, Rs.thn_ex, Xs.bind_ex, e_xat, e_isx, e_lamc, x_lamb, noEx, handle, noX, noXf, xS, if_pos, List.length_cons, List.length_nil, Nat.zero_add, Nat.reduceAdd, lk0, lk1, lk2, lk3, lk4, lk5, lk6, lk7, lk8, lk9, lk10, lk11, lk12, lk13, lk14, lk15, lk16, lk17, lk18, lk19, lk20, lk21, lk22, lk23, lk24, lk25, lk26, lk27, lk28, lk29, lk30, lk31, lk32, ix0, ix1, ix2, Int.reduceLT, Int.reduceLE, eq_self, decide_true, decide_false, eb])
      refine OkX.step (t' := T0 (some (.d (.list (ns.map PyData.int)))) (some (.d (.int (0 + (i : Nat))))) none (some (.d (sch r a))) (some (.d (.bool true))) (some (.d (.bool true))) (some (.d (.tuple [.str "returned", bd r a])))) (k' := k1) (by simp only [zA, zB, zC, zD, zE, zF, zG, zH, zI, zJ, zK, zL, zM, zN, zO, zP, zQ, zR, zS, zT, zU, zV, zW, zX, zY, zZ, za, zb, zc, zd, ze, zf, zg, zh, zi, zj, zk, zl, zm, mkR_ok, zn, eq_self, Option.isNone_none, List.zip_cons_cons, List.zip_nil_left, zo, zp, zq, zr, Bool.true_or, Bool.or_true, zt, zu, zv, zw, zx, zy, zz, yA, yB, yC, yD, yE, yF, yG, yH, yI, yJ, yK, yL, yM, yN, yO, yP, evs, evds, evx, evI, evIs, sets, dl, lend, varT, data, dat, opt, tst, truD, yQ, yR, yS, yT, List.getD_cons_zero, List.getD_cons_succ, List.set_cons_zero, List.set_cons_succ, List.map_cons, List.map_nil, Option.map_some, Option.bind_some, yU, yV, yX, yY, yZ, ya, yc, yd, ye, yf, yg, yh, yi, yj, yk, yl, ym, yn, yo, yp, yq, yr, yt, yu, yw, yx, yy, yz, qA, qB, qC, qD, qE, qF, qG, qH, qI, qJ, qK, qL, qM, qN, qO, qP, qQ, qR, qS, qT, qU, qV, bltD, idxD, negD, itemsD, isiD, if_true, Bool.false_eq_true, if_false, Bool.not_true, Bool.not_false, Rs.bind_ex, Rs.thn_ex, Xs.bind_ex, e_xat, e_isx, e_lamc, x_lamb, noEx, handle, noX, noXf, xS, if_pos, List.length_cons, List.length_nil, Nat.zero_add, Nat.reduceAdd, lk0, lk1, lk2, lk3, lk4, lk5, lk6, lk7, lk8, lk9, lk10, lk11, lk12, lk13, lk14, lk15, lk16, lk17, lk18, lk19, lk20, lk21, lk22, lk23, lk24, lk25, lk26, lk27, lk28, lk29, lk30, lk31, lk32, ix0, ix1, ix2, Int.reduceLT, Int.reduceLE, eq_self, decide_true, decide_false, l0]) ?_
      refine OkX.step (t' := T0 (some (.d (.list (ns.map PyData.int)))) (some (.d (.int (0 + (i : Nat))))) none (some (.d (sch r a))) (some (.d (.bool true))) (some (.d (.bool true))) (some (.d (.tuple [.str "returned", bd r a])))) (k' := k1) (by
        rcases Bool.eq_false_or_eq_true (decide ((0 + (i : Nat) : Int) < 2)) with c | c
        · simp only [zA, zB, zC, zD, zE, zF, zG, zH, zI, zJ, zK, zL, zM, zN, zO, zP, zQ, zR, zS, zT, zU, zV, zW, zX, zY, zZ, za, zb, zc, zd, ze, zf, zg, zh, zi, zj, zk, zl, zm, mkR_ok, zn, eq_self, Option.isNone_none, List.zip_cons_cons, List.zip_nil_left, zo, zp, zq, zr, Bool.true_or, Bool.or_true, zt, zu, zv, zw, zx, zy, zz, yA, yB, yC, yD, yE, yF, yG, yH, yI, yJ, yK, yL, yM, yN, yO, yP, evs, evds, evx, evI, evIs, sets, dl, lend, varT, data, dat, opt, tst, truD, yQ, yR, yS, yT, List.getD_cons_zero, List.getD_cons_succ, List.set_cons_zero, List.set_cons_succ, List.map_cons, List.map_nil, Option.map_some, Option.bind_some, yU, yV, yX, yY, yZ, ya, yc, yd, ye, yf, yg, yh, yi, yj, yk, yl, ym, yn, yo, yp, yq, yr, yt, yu, yw, yx, yy, yz, qA, qB, qC, qD, qE, qF, qG, qH, qI, qJ, qK, qL, qM, qN, qO, qP, qQ, qR, qS, qT, qU, qV, bltD, idxD, negD, itemsD, isiD, if_true, Bool.false_eq_true, if_false, Bool.not_true, Bool.not_false, Rs.bind_ex, Rs.thn_ex, Xs.bind_ex, e_xat, e_isx, e_lamc, x_lamb, noEx, handle, noX, noXf, xS, if_pos, List.length_cons, List.length_nil, Nat.zero_add, Nat.reduceAdd, lk0, lk1, lk2, lk3, lk4, lk5, lk6, lk7, lk8, lk9, lk10, lk11, lk12, lk13, lk14, lk15, lk16, lk17, lk18, lk19, lk20, lk21, lk22, lk23, lk24, lk25, lk26, lk27, lk28, lk29, lk30, lk31, lk32, ix0, ix1, ix2, Int.reduceLT, Int.reduceLE, eq_self, decide_true, decide_false, c, l1, rp]
        · simp only [zA, zB, zC, zD, zE, zF, zG, zH, zI, zJ, zK, zL, zM, zN, zO, zP, zQ, zR, zS, zT, zU, zV, zW, zX, zY, zZ, za, zb, zc, zd, ze, zf, zg, zh, zi, zj, zk, zl, zm, mkR_ok, zn, eq_self, Option.isNone_none, List.zip_cons_cons, List.zip_nil_left, zo, zp, zq, zr, Bool.true_or, Bool.or_true, zt, zu, zv, zw, zx, zy, zz, yA, yB, yC, yD, yE, yF, yG, yH, yI, yJ, yK, yL, yM, yN, yO, yP, evs, evds, evx, evI, evIs, sets, dl, lend, varT, data, dat, opt, tst, truD, yQ, yR, yS, yT, List.getD_cons_zero, List.getD_cons_succ, List.set_cons_zero, List.set_cons_succ, List.map_cons, List.map_nil, Option.map_some, Option.bind_some, yU, yV, yX, yY, yZ, ya, yc, yd, ye, yf, yg, yh, yi, yj, yk, yl, ym, yn, yo, yp, yq, yr, yt, yu, yw, yx, yy, yz, qA, qB, qC, qD, qE, qF, qG, qH, qI, qJ, qK, qL, qM, qN, qO, qP, qQ, qR, qS, qT, qU, qV, bltD, idxD, negD, itemsD, isiD, if_true, Bool.false_eq_true, if_false, Bool.not_true, Bool.not_false, Rs.bind_ex, Rs.thn_ex, Xs.bind_ex, e_xat, e_isx, e_lamc, x_lamb, noEx, handle, noX, noXf, xS, if_pos, List.length_cons, List.length_nil, Nat.zero_add, Nat.reduceAdd, lk0, lk1, lk2, lk3, lk4, lk5, lk6, lk7, lk8, lk9, lk10, lk11, lk12, lk13, lk14, lk15, lk16, lk17, lk18, lk19, lk20, lk21, lk22, lk23, lk24, lk25, lk26, lk27, lk28, lk29, lk30, lk31, lk32, ix0, ix1, ix2, Int.reduceLT, Int.reduceLE, eq_self, decide_true, decide_false, c, l1, rp]) ?_
      refine OkX.step (by simp only [zA, zB, zC, zD, zE, zF, zG, zH, zI, zJ, zK, zL, zM, zN, zO, zP, zQ, zR, zS, zT, zU, zV, zW, zX, zY, zZ, za, zb, zc, zd, ze, zf, zg, zh, zi, zj, zk, zl, zm, mkR_ok, zn, eq_self, Option.isNone_none, List.zip_cons_cons, List.zip_nil_left, zo, zp, zq, zr, Bool.true_or, Bool.or_true, zt, zu, zv, zw, zx, zy, zz, yA, yB, yC, yD, yE, yF, yG, yH, yI, yJ, yK, yL, yM, yN, yO, yP, evs, evds, evx, evI, evIs, sets, dl, lend, varT, data, dat, opt, tst, truD, yQ, yR, yS, yT, List.getD_cons_zero, List.getD_cons_succ, List.set_cons_zero, List.set_cons_succ, List.map_cons, List.map_nil, Option.map_some, Option.bind_some, yU, yV, yX, yY, yZ, ya, yc, yd, ye, yf, yg, yh, yi, yj, yk, yl, ym, yn, yo, yp, yq, yr, yt, yu, yw, yx, yy, yz, qA, qB, qC, qD, qE, qF, qG, qH, qI, qJ, qK, qL, qM, qN, qO, qP, qQ, qR, qS, qT, qU, qV, bltD, idxD, negD, itemsD, isiD, if_true, Bool.false_eq_true, if_false, Bool.not_true, Bool.not_false, List.length_cons, List.length_nil, Nat.zero_add, Nat.reduceAdd, lk0, lk1, lk2, lk3, lk4, lk5, lk6, lk7, lk8, lk9, lk10, lk11, lk12, lk13, lk14, lk15, lk16, lk17, lk18, lk19, lk20, lk21, lk22, lk23, lk24, lk25, lk26, lk27, lk28, lk29, lk30, lk31, lk32, ix0, ix1, ix2, Int.reduceLT, Int.reduceLE, eq_self, decide_true, decide_false, el, rp] <;> with_reducible rfl) ?_
      exact OkX.nil ⟨rfl, d1, _, _, _, _, _, rfl⟩
    | false =>
      have eb := s_bound_ex (W := W) (fuel := 0) (n := 33) (k := k1) hb
      have rp := shows_of (rep_tuple (repA_cons (rS "BadScheme" (.inr rfl)) (repA_cons rd repA_nil))) (by decide) (by decide)
      have t0 := fun (t : Tau) (h : W.ph 0 38 100380 [.clo 100380 t] k1 = .ex "BadScheme" d k1) => s_triedX0 (W := W) (fuel := 0) (n := 38) (k := k1) (k' := k1) (j := 100380) (t := t) (v := d) subX subF h
      have t1 := fun (t : Tau) (h : W.ph 0 38 100381 [.clo 100381 t] k1 = .ex "BadScheme" d k1) => s_triedX0 (W := W) (fuel := 0) (n := 38) (k := k1) (k' := k1) (j := 100381) (t := t) (v := d) subX subF h
      have l0 := fun s7 => t0 (T0 (some (.d (.list (ns.map PyData.int)))) (some (.d (.int (0 + (i : Nat))))) none (some (.d d)) (some (.d (.bool false))) (some (.d (.bool false))) s7) (by
        rw [u_lawk00_l0]
        unfold i_lawk00_l0
        simp only [zA, zB, zC, zD, zE, zF, zG, zH, zI, zJ, zK, zL, zM, zN, zO, zP, zQ, zR, zS, zT, zU, zV, zW, zX, zY, zZ, za, zb, zc, zd, ze, zf, zg, zh, zi, zj, zk, zl, zm, mkR_ok, zn, eq_self, Option.isNone_none, List.zip_cons_cons, List.zip_nil_left, zo, zp, zq, zr, Bool.true_or, Bool.or_true, zt, zu, zv, zw, zx, zy, zz, yA, yB, yC, yD, yE, yF, yG, yH, yI, yJ, yK, yL, yM, yN, yO, yP, evs, evds, evx, evI, evIs, sets, dl, lend, varT, data, dat, opt, tst, truD, yQ, yR, yS, yT, List.getD_cons_zero, List.getD_cons_succ, List.set_cons_zero, List.set_cons_succ, List.map_cons, List.map_nil, Option.map_some, Option.bind_some, yU, yV, yX, yY, yZ, ya, yc, yd, ye, yf, yg, yh, yi, yj, yk, yl, ym, yn, yo, yp, yq, yr, yt, yu, yw, yx, yy, yz, qA, qB, qC, qD, qE, qF, qG, qH, qI, qJ, qK, qL, qM, qN, qO, qP, qQ, qR, qS, qT, qU, qV, bltD, idxD, negD, itemsD, isiD, if_true, Bool.false_eq_true, if_false, Bool.not_true, Bool.not_false, Rs.bind_ex, Rs.thn_ex, Xs.bind_ex, e_xat, e_isx, e_lamc, x_lamb, noEx, handle, noX, noXf, xS, if_pos, List.length_cons, List.length_nil, Nat.zero_add, Nat.reduceAdd, lk0, lk1, lk2, lk3, lk4, lk5, lk6, lk7, lk8, lk9, lk10, lk11, lk12, lk13, lk14, lk15, lk16, lk17, lk18, lk19, lk20, lk21, lk22, lk23, lk24, lk25, lk26, lk27, lk28, lk29, lk30, lk31, lk32, ix0, ix1, ix2, Int.reduceLT, Int.reduceLE, eq_self, decide_true, decide_false, eb])
      have l1 := fun s7 => t1 (T0 (some (.d (.list (ns.map PyData.int)))) (some (.d (.int (0 + (i : Nat))))) none (some (.d d)) (some (.d (.bool false))) (some (.d (.bool false))) s7) (by
        rw [u_lawk00_l1]
        unfold i_lawk00_l1
        simp only [zA, zB, zC, zD, zE, zF, zG, zH, zI, zJ, zK, zL, zM, zN, zO, zP, zQ, zR, zS, zT, zU, zV, zW, zX, zY, zZ, za, zb, zc, zd, ze, zf, zg, zh, zi, zj, zk, zl, zm, mkR_ok, zn, eq_self, Option.isNone_none, List.zip_cons_cons, List.zip_nil_left, zo, zp, zq, zr, Bool.true_or, Bool.or_true, zt, zu, zv, zw, zx, zy, zz, yA, yB, yC, yD, yE, yF, yG, yH, yI, yJ, yK, yL, yM, yN, yO, yP, evs, evds, evx, evI, evIs, sets, dl, lend, varT, data, dat, opt, tst, truD, yQ, yR, yS, yT, List.getD_cons_zero, List.getD_cons_succ, List.set_cons_zero, List.set_cons_succ, List.map_cons, List.map_nil, Option.map_some, Option.bind_some, yU, yV, yX, yY, yZ, ya, yc, yd, ye, yf, yg, yh, yi, yj, yk, yl, ym, yn, yo, yp, yq, yr, yt, yu, yw, yx, yy, yz, qA, qB, qC, qD, qE, qF, qG, qH, qI, qJ, qK, qL, qM, qN, qO, qP, qQ, qR, qS, qT, qU, qV, bltD, idxD, negD, itemsD, isiD, if_true, Bool.false_eq_true, if_false, Bool.not_true, Bool.not_false, Rs.bind_ex, Rs.thn_ex, Xs.bind_ex, e_xat, e_isx, e_lamc, x_lamb, noEx, handle, noX, noXf, xS, if_pos, List.length_cons, List.length_nil, Nat.zero_add, Nat.reduceAdd, lk0, lk1, lk2, lk3, lk4, lk5, lk6, lk7, lk8, lk9, lk10, lk11, lk12, lk13, lk14, lk15, lk16, lk17, lk18, lk19, lk20, lk21, lk22, lk23, lk24, lk25, lk26, lk27, lk28, lk29, lk30, lk31, lk32, ix0, ix1, ix2, Int.reduceLT, Int.reduceLE, eq_self, decide_true, decide_false, eb])
      refine OkX.step (t' := T0 (some (.d (.list (ns.map PyData.int)))) (some (.d (.int (0 + (i : Nat))))) none (some (.d d)) (some (.d (.bool false))) (some (.d (.bool false))) (some (.d (.tuple [.str "BadScheme", d])))) (k' := k1) (by simp only [zA, zB, zC, zD, zE, zF, zG, zH, zI, zJ, zK, zL, zM, zN, zO, zP, zQ, zR, zS, zT, zU, zV, zW, zX, zY, zZ, za, zb, zc, zd, ze, zf, zg, zh, zi, zj, zk, zl, zm, mkR_ok, zn, eq_self, Option.isNone_none, List.zip_cons_cons, List.zip_nil_left, zo, zp, zq, zr, Bool.true_or, Bool.or_true, zt, zu, zv, zw, zx, zy, zz, yA, yB, yC, yD, yE, yF, yG, yH, yI, yJ, yK, yL, yM, yN, yO, yP, evs, evds, evx, evI, evIs, sets, dl, lend, varT, data, dat, opt, tst, truD, yQ, yR, yS, yT, List.getD_cons_zero, List.getD_cons_succ, List.set_cons_zero, List.set_cons_succ, List.map_cons, List.map_nil, Option.map_some, Option.bind_some, yU, yV, yX, yY, yZ, ya, yc, yd, ye, yf, yg, yh, yi, yj, yk, yl, ym, yn, yo, yp, yq, yr, yt, yu, yw, yx, yy, yz, qA, qB, qC, qD, qE, qF, qG, qH, qI, qJ, qK, qL, qM, qN, qO, qP, qQ, qR, qS, qT, qU, qV, bltD, idxD, negD, itemsD, isiD, if_true, Bool.false_eq_true, if_false, Bool.not_true, Bool.not_false, Rs.bind_ex, Rs.thn_ex, Xs.bind_ex, e_xat, e_isx, e_lamc, x_lamb, noEx, handle, noX, noXf, xS, if_pos, List.length_cons, List.length_nil, Nat.zero_add, Nat.reduceAdd, lk0, lk1, lk2, lk3, lk4, lk5, lk6, lk7, lk8, lk9, lk10, lk11, lk12, lk13, lk14, lk15, lk16, lk17, lk18, lk19, lk20, lk21, lk22, lk23, lk24, lk25, lk26, lk27, lk28, lk29, lk30, lk31, lk32, ix0, ix1, ix2, Int.reduceLT, Int.reduceLE, eq_self, decide_true, decide_false, l0]) ?_
      refine OkX.step (t' := T0 (some (.d (.list (ns.map PyData.int)))) (some (.d (.int (0 + (i : Nat))))) none (some (.d d)) (some (.d (.bool false))) (some (.d (.bool false))) (some (.d (.tuple [.str "BadScheme", d])))) (k' := k1) (by
        rcases Bool.eq_false_or_eq_true (decide ((0 + (i : Nat) : Int) < 2)) with c | c
        · simp only [zA, zB, zC, zD, zE, zF, zG, zH, zI, zJ, zK, zL, zM, zN, zO, zP, zQ, zR, zS, zT, zU, zV, zW, zX, zY, zZ, za, zb, zc, zd, ze, zf, zg, zh, zi, zj, zk, zl, zm, mkR_ok, zn, eq_self, Option.isNone_none, List.zip_cons_cons, List.zip_nil_left, zo, zp, zq, zr, Bool.true_or, Bool.or_true, zt, zu, zv, zw, zx, zy, zz, yA, yB, yC, yD, yE, yF, yG, yH, yI, yJ, yK, yL, yM, yN, yO, yP, evs, evds, evx, evI, evIs, sets, dl, lend, varT, data, dat, opt, tst, truD, yQ, yR, yS, yT, List.getD_cons_zero, List.getD_cons_succ, List.set_cons_zero, List.set_cons_succ, List.map_cons, List.map_nil, Option.map_some, Option.bind_some, yU, yV, yX, yY, yZ, ya, yc, yd, ye, yf, yg, yh, yi, yj, yk, yl, ym, yn, yo, yp, yq, yr, yt, yu, yw, yx, yy, yz, qA, qB, qC, qD, qE, qF, qG, qH, qI, qJ, qK, qL, qM, qN, qO, qP, qQ, qR, qS, qT, qU, qV, bltD, idxD, negD, itemsD, isiD, if_true, Bool.false_eq_true, if_false, Bool.not_true, Bool.not_false, Rs.bind_ex, Rs.thn_ex, Xs.bind_ex, e_xat, e_isx, e_lamc, x_lamb, noEx, handle, noX, noXf, xS, if_pos, List.length_cons, List.length_nil, Nat.zero_add, Nat.reduceAdd, lk0, lk1, lk2, lk3, lk4, lk5, lk6, lk7, lk8, lk9, lk10, lk11, lk12, lk13, lk14, lk15, lk16, lk17, lk18, lk19, lk20, lk21, lk22, lk23, lk24, lk25, lk26, lk27, lk28, lk29, lk30, lk31, lk32, ix0, ix1, ix2, Int.reduceLT, Int.reduceLE, eq_self, decide_true, decide_false, c, l1, rp]
        · simp only [zA, zB, zC, zD, zE, zF, zG, zH, zI, zJ, zK, zL, zM, zN, zO, zP, zQ, zR, zS, zT, zU, zV, zW, zX, zY, zZ, za, zb, zc, zd, ze, zf, zg, zh, zi, zj, zk, zl, zm, mkR_ok, zn, eq_self, Option.isNone_none, List.zip_cons_cons, List.zip_nil_left, zo, zp, zq, zr, Bool.true_or, Bool.or_true, zt, zu, zv, zw, zx, zy, zz, yA, yB, yC, yD, yE, yF, yG, yH, yI, yJ, yK, yL, yM, yN, yO, yP, evs, evds, evx, evI, evIs, sets, dl, lend, varT, data, dat, opt, tst, truD, yQ, yR, yS, yT, List.getD_cons_zero, List.getD_cons_succ, List.set_cons_zero, List.set_cons_succ, List.map_cons, List.map_nil, Option.map_some, Option.bind_some, yU, yV, yX, yY, yZ, ya, yc, yd, ye, yf, yg, yh, yi, yj, yk, yl, ym, yn, yo, yp, yq, yr, yt, yu, yw, yx, yy, yz, qA, qB, qC, qD, qE, qF, qG, qH, qI, qJ, qK, qL, qM, qN, qO, qP, qQ, qR, qS, qT, qU, qV, bltD, idxD, negD, itemsD, isiD, if_true, Bool.false_eq_true, if_false, Bool.not_true, Bool.not_false, Rs.bind_ex, Rs.thn_ex, Xs.bind_ex, e_xat, e_isx, e_lamc, x_lamb, noEx, handle, noX, noXf, xS, if_pos, List.length_cons, List.length_nil, Nat.zero_add, Nat.reduceAdd, lk0, lk1, lk2, lk3, lk4, lk5, lk6, lk7, lk8, lk9, lk10, lk11, lk12, lk13, lk14, lk15, lk16, lk17, lk18, lk19, lk20, lk21, lk22, lk23, lk24, lk25, lk26, lk27, lk28, lk29, lk30, lk31, lk32, ix0, ix1, ix2, Int.reduceLT, Int.reduceLE, eq_self, decide_true, decide_false, c, l1, rp]) ?_
      refine OkX.step (by simp only [zA, zB, zC, zD, zE, zF, zG, zH, zI, zJ, zK, zL, zM, zN, zO, zP, zQ, zR, zS, zT, zU, zV, zW, zX, zY, zZ, za, zb, zc, zd, ze, zf, zg, zh, zi, zj, zk, zl, zm, mkR_ok, zn, eq_self, Option.isNone_none, List.zip_cons_cons, List.zip_nil_left, zo, zp, zq, zr, Bool.true_or, Bool.or_true, zt, zu, zv, zw, zx, zy, zz, yA, yB, yC, yD, yE, yF, yG, yH, yI, yJ, yK, yL, yM, yN, yO, yP, evs, evds, evx, evI, evIs, sets, dl, lend, varT, data, dat, opt, tst, truD, yQ, yR, yS, yT, List.getD_cons_zero, List.getD_cons_succ, List.set_cons_zero, List.set_cons_succ, List.map_cons, List.map_nil, Option.map_some, Option.bind_some, yU, yV, yX, yY, yZ, ya, yc, yd, ye, yf, yg, yh, yi, yj, yk, yl, ym, yn, yo, yp, yq, yr, yt, yu, yw, yx, yy, yz, qA, qB, qC, qD, qE, qF, qG, qH, qI, qJ, qK, qL, qM, qN, qO, qP, qQ, qR, qS, qT, qU, qV, bltD, idxD, negD, itemsD, isiD, if_true, Bool.false_eq_true, if_false, Bool.not_true, Bool.not_false, List.length_cons, List.length_nil, Nat.zero_add, Nat.reduceAdd, lk0, lk1, lk2, lk3, lk4, lk5, lk6, lk7, lk8, lk9, lk10, lk11, lk12, lk13, lk14, lk15, lk16, lk17, lk18, lk19, lk20, lk21, lk22, lk23, lk24, lk25, lk26, lk27, lk28, lk29, lk30, lk31, lk32, ix0, ix1, ix2, Int.reduceLT, Int.reduceLE, eq_self, decide_true, decide_false, rp] <;> with_reducible rfl) ?_
      exact OkX.nil ⟨rfl, d1, _, _, _, _, _, rfl⟩
  · rintro t k ⟨hd, s2, s4, s5, s6, s7, rfl⟩
    refine OkX.loop [sch 1 1, sch 2 2, sch 2 3, sch 3 4, sch 3 5, sch 3 6, sch 3 7] (fun i t k => ∃ s3, t = T0 (some (.d (.list (ns.map PyData.int)))) s2 s3 s4 s5 s6 s7) rfl (k' := k) (by simp only [zA, zB, zC, zD, zE, zF, zG, zH, zI, zJ, zK, zL, zM, zN, zO, zP, zQ, zR, zS, zT, zU, zV, zW, zX, zY, zZ, za, zb, zc, zd, ze, zf, zg, zh, zi, zj, zk, zl, zm, mkR_ok, zn, eq_self, Option.isNone_none, List.zip_cons_cons, List.zip_nil_left, zo, zp, zq, zr, Bool.true_or, Bool.or_true, zt, zu, zv, zw, zx, zy, zz, yA, yB, yC, yD, yE, yF, yG, yH, yI, yJ, yK, yL, yM, yN, yO, yP, evs, evds, evx, evI, evIs, sets, dl, lend, varT, data, dat, opt, tst, truD, yQ, yR, yS, yT, List.getD_cons_zero, List.getD_cons_succ, List.set_cons_zero, List.set_cons_succ, List.map_cons, List.map_nil, Option.map_some, Option.bind_some, yU, yV, yX, yY, yZ, ya, yc, yd, ye, yf, yg, yh, yi, yj, yk, yl, ym, yn, yo, yp, yq, yr, yt, yu, yw, yx, yy, yz, qA, qB, qC, qD, qE, qF, qG, qH, qI, qJ, qK, qL, qM, qN, qO, qP, qQ, qR, qS, qT, qU, qV, bltD, idxD, negD, itemsD, isiD, if_true, Bool.false_eq_true, if_false, Bool.not_true, Bool.not_false, List.length_cons, List.length_nil, Nat.zero_add, Nat.reduceAdd, lk0, lk1, lk2, lk3, lk4, lk5, lk6, lk7, lk8, lk9, lk10, lk11, lk12, lk13, lk14, lk15, lk16, lk17, lk18, lk19, lk20, lk21, lk22, lk23, lk24, lk25, lk26, lk27, lk28, lk29, lk30, lk31, lk32, ix0, ix1, ix2, Int.reduceLT, Int.reduceLE, eq_self, decide_true, decide_false, evi]) ⟨_, rfl⟩ ?_ ?_
    · rintro i y t k hy ⟨s3, rfl⟩
      refine ⟨_, rfl, ?_⟩
      obtain ⟨r, a, hs, rfl⟩ : ∃ r a, Sc r a ∧ y = sch r a := by
        have hm := List.mem_of_getElem? hy
        simp only [List.mem_cons, List.not_mem_nil, or_false] at hm
        rcases hm with rfl | rfl | rfl | rfl | rfl | rfl | rfl
        all_goals exact ⟨_, _, by unfold Sc; decide, rfl⟩
      have e3 := s_isch (W := W) (fuel := 0) (n := 36) (k := k) (sch r a)
      rw [sc_yes hs] at e3
      have eb := s_bound (W := W) (fuel := 0) (n := 35) (k := k) hs
      have el := s_lbound (W := W) (fuel := 0) (n := 36) (k := k) hs
      have rp := shows_of (rep_tuple (repA_cons (rep_bool (b := true)) (repA_cons (bd_rep hs) repA_nil))) (by decide) (by decide)
      refine OkX.step (k' := k) (by simp only [zA, zB, zC, zD, zE, zF, zG, zH, zI, zJ, zK, zL, zM, zN, zO, zP, zQ, zR, zS, zT, zU, zV, zW, zX, zY, zZ, za, zb, zc, zd, ze, zf, zg, zh, zi, zj, zk, zl, zm, mkR_ok, zn, eq_self, Option.isNone_none, List.zip_cons_cons, List.zip_nil_left, zo, zp, zq, zr, Bool.true_or, Bool.or_true, zt, zu, zv, zw, zx, zy, zz, yA, yB, yC, yD, yE, yF, yG, yH, yI, yJ, yK, yL, yM, yN, yO, yP, evs, evds, evx, evI, evIs, sets, dl, lend, varT, data, dat, opt, tst, truD, yQ, yR, yS, yT, List.getD_cons_zero, List.getD_cons_succ, List.set_cons_zero, List.set_cons_succ, List.map_cons, List.map_nil, Option.map_some, Option.bind_some, yU, yV, yX, yY, yZ, ya, yc, yd, ye, yf, yg, yh, yi, yj, yk, yl, ym, yn, yo, yp, yq, yr, yt, yu, yw, yx, yy, yz, qA, qB, qC, qD, qE, qF, qG, qH, qI, qJ, qK, qL, qM, qN, qO, qP, qQ, qR, qS, qT, qU, qV, bltD, idxD, negD, itemsD, isiD, if_true, Bool.false_eq_true, if_false, Bool.not_true, Bool.not_false, List.length_cons, List.length_nil, Nat.zero_add, Nat.reduceAdd, lk0, lk1, lk2, lk3, lk4, lk5, lk6, lk7, lk8, lk9, lk10, lk11, lk12, lk13, lk14, lk15, lk16, lk17, lk18, lk19, lk20, lk21, lk22, lk23, lk24, lk25, lk26, lk27, lk28, lk29, lk30, lk31, lk32, ix0, ix1, ix2, Int.reduceLT, Int.reduceLE, eq_self, decide_true, decide_false, e3, eb, el, rp] <;> rfl) (OkX.nil ⟨rfl, _, rfl⟩)
    · rintro t k ⟨s3, rfl⟩
      exact OkX.ret (k' := k) (by simp only [zA, zB, zC, zD, zE, zF, zG, zH, zI, zJ, zK, zL, zM, zN, zO, zP, zQ, zR, zS, zT, zU, zV, zW, zX, zY, zZ, za, zb, zc, zd, ze, zf, zg, zh, zi, zj, zk, zl, zm, mkR_ok, zn, eq_self, Option.isNone_none, List.zip_cons_cons, List.zip_nil_left, zo, zp, zq, zr, Bool.true_or, Bool.or_true, zt, zu, zv, zw, zx, zy, zz, yA, yB, yC, yD, yE, yF, yG, yH, yI, yJ, yK, yL, yM, yN, yO, yP, evs, evds, evx, evI, evIs, sets, dl, lend, varT, data, dat, opt, tst, truD, yQ, yR, yS, yT, List.getD_cons_zero, List.getD_cons_succ, List.set_cons_zero, List.set_cons_succ, List.map_cons, List.map_nil, Option.map_some, Option.bind_some, yU, yV, yX, yY, yZ, ya, yc, yd, ye, yf, yg, yh, yi, yj, yk, yl, ym, yn, yo, yp, yq, yr, yt, yu, yw, yx, yy, yz, qA, qB, qC, qD, qE, qF, qG, qH, qI, qJ, qK, qL, qM, qN, qO, qP, qQ, qR, qS, qT, qU, qV, bltD, idxD, negD, itemsD, isiD, if_true, Bool.false_eq_true, if_false, Bool.not_true, Bool.not_false, List.length_cons, List.length_nil, Nat.zero_add, Nat.reduceAdd, lk0, lk1, lk2, lk3, lk4, lk5, lk6, lk7, lk8, lk9, lk10, lk11, lk12, lk13, lk14, lk15, lk16, lk17, lk18, lk19, lk20, lk21, lk22, lk23, lk24, lk25, lk26, lk27, lk28, lk29, lk30, lk31, lk32, ix0, ix1, ix2, Int.reduceLT, Int.reduceLE, eq_self, decide_true, decide_false, eq_self] <;> rfl) rfl
theorem plain : Plain := by
  intro ns hn _
  exact ⟨0, plainW hn⟩
end K00
end Q

/-! records: a class whose __init__ sets its fields; fields, methods, making -/
namespace Q
open PySem PySem.Spec PyProof.Rows L2
section
variable {K : PySem.W.Frag} {H : Hp} {Ex : Addr → Prop}
/-- one field more -/
theorem fsR_put {f : Str} {v : V} {x : D} (rv : Rp K H Ex v x) : ∀ {fs : List (Str × V)} {gs : List (Str × D)}, FsR K H Ex fs gs → (∀ p ∈ gs, p.1 ≠ f) → FsR K H Ex (L2.putF f v fs) (gs ++ [(f, x)])
  | _, _, .nil, _ => .cons rv .nil
  | _, _, .cons (f := f0) (v := v0) (x := x0) (fs := fs) (gs := gs) r t, h => by
    have e : f ≠ f0 := fun e => h (f0, x0) List.mem_cons_self e.symm
    rw [show L2.putF f v ((f0, v0) :: fs) = (if f0 = f then (f0, v) :: fs else (f0, v0) :: L2.putF f v fs) from rfl, if_neg (fun z => e z.symm)]
    exact .cons r (fsR_put rv t fun p hp => h p (List.mem_cons_of_mem _ hp))
end
section
variable {V0 : Ev} {W : WX} {X : Cx} {n : Nat} {a e : Expr} {es : List Expr} {ia ie : IE} {ies : List IE} {p pos apos : Pos} {c f : Str}
/-- a method that stands -/
structure FnM (K : PySem.W.Frag) (cl : Cls) (fld : Str → Str) (P : Program) (w : World) (mg : Str → Option Value) (base : Heap) (n : Nat) (phi : List Sl → Ds → Rs Sl) (ps : List Str) (c m : Str) (d : He.DefD) : Prop where
  ex : ∃ fa fd, Meth K (cl c) m fa ∧ FunD K d.name d.qual d.params d.body d.scope [] [] fa fd ∧ Fq P w K mg base n fa fd ps (spQ K cl fld phi ps.length)
  len : ∀ ss k, ss.length ≠ ps.length → phi ss k = .no
end
end Q

/-! records: __init__ and C(..) -/
namespace Q
open PySem PySem.Spec PyProof.Rows L2
/-! ### the promise -/
section
variable (K : PySem.W.Frag) (cl : Cls) (fld : Str → Str)
def PostM (c : Str) (x : Addr) (E0 : Addr → Prop) (dk : Da) (H : Hp) (r : Rs Sl) (Q : VK) (E : XK) : Prop := match r with
  | .ok (.obj c' fs) k' => c' = c ∧ ∀ H' d' dx fv, Ext dk d' H H' → DkR H' d' k' → LamX.Tabs cl.T H' → H' x = some (.ins (cl c) dx fv) → ¬ Ux E0 d' x → FsR K H' (Ux E0 d') fv fs → Q .non H'
  | .ex c x k' => ∀ v H' d' d, Ext dk d' H H' → DkR H' d' k' → LamX.Tabs cl.T H' → Rp K H' (Ux E0 d') v x → XdR H' (Ux E0 d') d (fld c) v → E (.ref (cl c)) (some d) H'
  | _ => False
def spM (c : Str) (phi : List Sl → Ds → Rs Sl) (ar : Nat) : Sp := fun vs H Q E => ∃ (x dx : Addr) (us : List V) (H0 : Hp) (E0 : Addr → Prop) (dk : Da) (ss : List Sl) (k : Ds), vs = .ref x :: us ∧ H = upd (upd H0 dx (.own x)) x (.ins (cl c) dx []) ∧ H0 x = none ∧ H0 dx = none ∧ dx ≠ x ∧
  ss.length + 1 = ar ∧ DkR H0 dk k ∧ LamX.Tabs cl.T H0 ∧ (∀ b, E0 b → H0 b ≠ none) ∧ (∀ b, E0 b → ¬ isDk dk b) ∧ Paired (fun v s => RSl K cl H0 (Ux E0 dk) dk v s) us ss ∧ PostM K cl fld c x E0 dk H0 (phi (.slf :: ss) k) Q E
end
/-- a def that is called from the making of an instance -/
structure FqM (P : Program) (w : World) (K : PySem.W.Frag) (mg : Str → Option Value) (base : Heap) (n : Nat) (f : Addr) (fd : FuncData) (ps : List Str) (sp : Sp) : Prop where
  len : ∀ vs H Q E, sp vs H Q E → vs.length = ps.length
  run : ∀ (A : Around) (C : Addr) (zs : List Value) (kw : List (Str × Value)) (fr : List Env) (s : Shared) (H : Hp) (ar : Args) (us : List Value) (vs : List V) (Q : VK) (E : XK), Rq n A → Env0 P w K mg base (A.under (.builtin "type.__call__" ⟨.ref C :: zs, kw⟩)) fr s H → BindsTo s fd ar (ps.zip us) → Vals vs us → sp vs H Q E →
    codeAny (model P w) (A.under (.builtin "type.__call__" ⟨.ref C :: zs, kw⟩)) (.call (.ref f) ar) (CR (L2.CX P w) fr P w H s Q E) s
theorem make_guards {A : Around} {C : Addr} {us : List Value} {kw : List (Str × Value)} : (A.under (.builtin "type.__call__" ⟨.ref C :: us, kw⟩)).guards = A.guards := by
  first | rfl | simp [Around.under, Code.weight, Code.isCreation, Code.isGuard, Code.isCaller, Code.frames, Code.isFrame, guardIds]
/-- room within a making's __init__ -/
theorem Rq.made {n : Nat} {A : Around} (q : Rq (n + 1) A) (C : Addr) (us : List Value) (kw : List (Str × Value)) (env : Env) : Rq n ((A.under (.builtin "type.__call__" ⟨.ref C :: us, kw⟩)).deeper env) := by
  refine ⟨⟨q.r.hd, ?_, ?_⟩, ?_⟩
  · have := q.r.dp
    show (A.under (.builtin "type.__call__" ⟨.ref C :: us, kw⟩)).depth + 1 + 3 * n + 5 < _
    rw [make_depth]; omega
  · have := q.r.un
    show (A.under (.builtin "type.__call__" ⟨.ref C :: us, kw⟩)).units + 3 + 16 * n + 200 < _
    rw [make_units]; omega
  · show (A.under (.builtin "type.__call__" ⟨.ref C :: us, kw⟩)).guards = some []
    rw [make_guards]; exact q.gu
section
variable {P : Program} {w : World} {K : PySem.W.Frag} {mg : Str → Option Value} {base : Heap} {x qual : Str} {params : Arguments} {body : List Stmt} {scope : Scope} {f : Addr} {fd : FuncData}
end
/-! ### making -/
section
variable {X : Cx} {pins : List (Addr × Obj)} {σ : L2.St} {H : Hp} {s s' : Shared}
end
/-- a class that is made, by its __init__ -/
structure FnI (K : PySem.W.Frag) (cl : Cls) (fld : Str → Str) (P : Program) (w : World) (mg : Str → Option Value) (base : Heap) (n : Nat) (phi : List Sl → Ds → Rs Sl) (ps : List Str) (c : Str) (d : He.DefD) : Prop where
  ex : ∃ fa fd, mg c = some (.ref (cl c)) ∧ Mk K (cl c) fa ∧ FunD K d.name d.qual d.params d.body d.scope [] [] fa fd ∧ FqM P w K mg base n fa fd ps (spM K cl fld c phi ps.length)
  len : ∀ ss k, ss.length ≠ ps.length → phi ss k = .no
section
variable {V0 : Ev} {W : WX} {X : Cx} {n : Nat} {e : Expr} {es : List Expr} {ies : List IE} {p pos : Pos} {c : Str}
end
end Q

/-! records: the body of __init__ -/
namespace Q
open PySem PySem.Spec PyProof.Rows L2
/-- within __init__: the new object at x -/
structure MSt (V0 : Ev) (H0 : Hp) (E0 : Addr → Prop) (dk0 : Da) (c : Str) (x dx : Addr) (σ : L2.St) (H : Hp) (t : Tau) (k : Ds) (d : Da) (fv : List (Str × V)) (fs : List (Str × D)) : Prop where
  s0 : σ[0]? = some (some (.ref x))
  hx : H x = some (.ins (V0.cl c) dx fv)
  x0 : H0 x = none
  e : Ext dk0 d H0 H
  S : Sim V0.K V0.cl ((⟨H0, E0, fun _ => 0, d⟩ : Gh).hold x) H σ t k
  r : FsR V0.K H (((⟨H0, E0, fun _ => 0, d⟩ : Gh).hold x).Ex t) fv fs
  no : ∀ (i : Nat) (xs : List D), t[i]? ≠ some (some (.own xs))
section
variable {V0 : Ev} {H0 : Hp} {E0 : Addr → Prop} {dk0 : Da} {c : Str} {x dx : Addr} {σ σ' : L2.St} {H H1 : Hp} {t t' : Tau} {k k1 : Ds} {d d1 : Da} {fv : List (Str × V)} {fs : List (Str × D)}
theorem MSt.ev (m : MSt V0 H0 E0 dk0 c x dx σ H t k d fv fs) (e : Ext d d1 H H1) (S : Sim V0.K V0.cl ((⟨H0, E0, fun _ => 0, d1⟩ : Gh).hold x) H1 σ t k1) : MSt V0 H0 E0 dk0 c x dx σ H1 t k1 d1 fv fs :=
  ⟨m.s0, e.keep _ _ m.hx rfl (m.S.exd x (.inr rfl)), m.x0, m.e.trans e, S, m.r.mv (m.S.mv (d' := d1) e), m.no⟩
/-- other names -/
theorem MSt.bind (m : MSt V0 H0 E0 dk0 c x dx σ H t k d fv fs) (hs : σ'[0]? = σ[0]?) (S : Sim V0.K V0.cl ((⟨H0, E0, fun _ => 0, d⟩ : Gh).hold x) H σ' t' k) (ho : ∀ (i : Nat) (xs : List D), t'[i]? = some (some (.own xs)) → t[i]? = some (some (.own xs))) : MSt V0 H0 E0 dk0 c x dx σ' H t' k d fv fs :=
  ⟨hs.trans m.s0, m.hx, m.x0, m.e, S, m.r.same fun b z => own_less (t := t) ho b z, fun i xs h => m.no i xs (ho i xs h)⟩
/-- a field is set -/
theorem MSt.put (m : MSt V0 H0 E0 dk0 c x dx σ H t k d fv fs) {f : Str} {v : V} {y : D} (rv : Rp V0.K H (((⟨H0, E0, fun _ => 0, d⟩ : Gh).hold x).Ex t) v y) (hf : ∀ p ∈ fs, p.1 ≠ f) :
    MSt V0 H0 E0 dk0 c x dx σ (upd H x (.ins (V0.cl c) dx (L2.putF f v fv))) t k d (L2.putF f v fv) (fs ++ [(f, y)]) := by
  have ne : ∀ b, ¬ ((⟨H0, E0, fun _ => 0, d⟩ : Gh).hold x).Ex t b → b ≠ x := fun b n e => n (by rw [e]; exact (hold_ex _ x x t).mpr (.inr rfl))
  refine ⟨m.s0, upd_same, m.x0, ⟨fun b o h hn n => ?_, m.e.dk, fun b z => ne_upd (m.e.ne b z)⟩, m.S.reheld m.x0 (fun xs z => (by rw [m.hx] at z; cases z)) (tabs_upd m.S.tab fun u hu => by rw [m.hx] at hu; cases hu; rfl), ?_, m.no⟩
  · rw [upd_ne (fun e => by rw [e, m.x0] at h; cases h)]
    exact m.e.keep b o h hn n
  · exact (fsR_put rv m.r hf).mv ⟨fun b o h _ n => by rw [upd_ne (ne b n)]; exact h, fun b z => .inl z, fun b z => ne_upd z⟩
end
section
variable (V0 : Ev) (W : WX) (c : Str)
def PostX (H0 : Hp) (E0 : Addr → Prop) (dk0 : Da) (x : Addr) (r : Xs) (D : Ends) : Prop := match r with
  | .ok (.rt (.obj c' fs)) t' k' => c' = c ∧ ∀ σ' H' d' dx fv, MSt V0 H0 E0 dk0 c x dx σ' H' t' k' d' fv fs → D.nx σ' H'
  | .ex c' y _ k' => ∀ σ' H' d' ea v, Ext dk0 d' H0 H' → DkR H' d' k' → LamX.Tabs V0.cl.T H' → Rp V0.K H' (Ux E0 d') v y → XdR H' (Ux E0 d') ea (V0.fld c') v → W (.ref (V0.cl c')) (some ea) σ' H'
  | _ => False
def tMk (ib : List IS) : TS := fun D σ H => ∃ H0 E0 dk0 x dx t k d, MSt V0 H0 E0 dk0 c x dx σ H t k d [] [] ∧ PostX V0 W c H0 E0 dk0 x (execs V0.G ib t k) D
def PostW (H0 : Hp) (E0 : Addr → Prop) (dk0 : Da) (x : Addr) (t : Tau) (fs : List (Str × D)) (ns : List Str) (r : Rs (List D)) (D : Ends) : Prop := match r with
  | .ok ys k' => ∀ σ' H' d' dx fv, MSt V0 H0 E0 dk0 c x dx σ' H' t k' d' fv (fs ++ ns.zip ys) → D.nx σ' H'
  | .ex c' y k' => ∀ σ' H' d' ea v, Ext dk0 d' H0 H' → DkR H' d' k' → LamX.Tabs V0.cl.T H' → Rp V0.K H' (Ux E0 d') v y → XdR H' (Ux E0 d') ea (V0.fld c') v → W (.ref (V0.cl c')) (some ea) σ' H'
  | .no => False
def tMf (ns : List Str) (ies : List IE) : TS := fun D σ H => ∃ H0 E0 dk0 x dx t k d fv fs, MSt V0 H0 E0 dk0 c x dx σ H t k d fv fs ∧ (∀ p ∈ fs, p.1 ∉ ns) ∧ ns.Nodup ∧ fs.length + ns.length ≤ 900 ∧ PostW V0 W c H0 E0 dk0 x t fs ns (evds V0.G t ies k) D
end
section
variable {V0 : Ev} {W : WX} {X : Cx} {n : Nat} {o e tg : Expr} {rest : List Stmt} {ie : IE} {ies : List IE} {ib : List IS} {p pos apos : Pos} {c f : Str} {ns : List Str} {g0 : Tg}
end
end Q

/-! own exceptions below an own base class: their __init__ says super().__init__(x), then sets its one field -/
namespace Q
open PySem PySem.Spec PyProof.Rows L2
abbrev xTail : List Value := [.type "Exception", .type "BaseException", .type "object"]
/-- what the written part says of such a class at C, its __init__ at fI, its field f -/
structure XcC (K : PySem.W.Frag) (P : Program) (C fI : Addr) (f : Str) : Prop where
  made : PySem.W.excInitIn K C xTail "Exception.__new__" = true
  ov : PySem.W.excOver K C xTail = true
  hd : PySem.W.hasDictIn K C = true
  sa : PySem.W.findIn K (.ref C) "__setattr__" = some (some (.builtin "object.__setattr__"))
  tk : PySem.W.takerIn K C f = some none
  nf : PySem.W.findIn K (.ref C) f = some none
  exC : PySem.W.subIn K (.ref C) (.type "BaseException") = some true
  exE : PySem.W.mroIn K C (.type "Exception") = some true
  tyC : PySem.W.typeIn K (.ref C) = some (.type "type")
  kC : PySem.W.keepIn K (.ref C) = true
  iC : PySem.W.findIn K (.ref C) "__init__" = some (some (.ref fI))
  tI : PySem.W.typeIn K (.ref fI) = some (.type "function")
  al : PySem.W.ks_superIn K C C "__init__" = some (some (.builtin "Exception.__init__"))
  sb : PySem.W.mroIn K C (.ref C) = some true
  opq : PySem.W.nsIn K cStatics "thirdparty.any" = some none
/-- the shape of its __init__ -/
structure XiB (qual : Str) (body : List Stmt) (scope : Scope) (f y z : Str) : Prop where
  ex : ∃ p0 p1 p2 p3 p4 p5 p6 p7 p8 p9 : Pos, body = [.Expr (.Call (.Attribute (.Call (.Name "super" p0) [] [] p1) "__init__" p2) [.Name z p3] [] p4) p5, .Assign [.Attribute (.Name y p6) f p7] (.Name z p8) p9] ∧
    ∀ (L a cda cc : Addr), (∃ pl : Sem Bool, eval (.Call (.Attribute (.Call (.Name "super" p0) [] [] p1) "__init__" p2) [.Name z p3] [] p4) (PySem.W.ksEnv qual scope L a (.ref cda) cc) = (do
      let ov ← attributeBase (.Call (.Name "super" p0) [] [] p1) "__init__" (PySem.W.ksEnv qual scope L a (.ref cda) cc) (eval (.Call (.Name "super" p0) [] [] p1) (PySem.W.ksEnv qual scope L a (.ref cda) cc))
      standAt p2.atName
      let (f, first) ← holding [ov] (getMethod ov "__init__" pl)
      callWith p4 f first (backTo p4 (starEach [.Name z p3] (PySem.W.ksEnv qual scope L a (.ref cda) cc))) [])) ∧
    swapsWith (.Call (.Attribute (.Call (.Name "super" p0) [] [] p1) "__init__" p2) [.Name z p3] [] p4) none p5.line (PySem.W.ksEnv qual scope L a (.ref cda) cc) = pure false ∧
    swapsWith (.Name z p8) (some (.Attribute (.Name y p6) f p7)) p9.line (PySem.W.ksEnv qual scope L a (.ref cda) cc) = pure false
  sup : scope.names.lookup ("super" : Str) = some .globalImplicit
  cls : scope.names.lookup ("__class__" : Str) = some .free
  ly : scope.names.lookup y = some .local
  lz : scope.names.lookup z = some .local
  cell : ∀ x ∈ scope.names, x.2 ≠ .cell
  co : scope.isCoroutine = false
  gen : scope.isGenerator = false
  kind : scope.kind = .function
  ne : y ≠ z
  dy : (y == ("__debug__" : Str)) = false
  dz : (z == ("__debug__" : Str)) = false
/-- the function that is its __init__ -/
structure XiF (K : PySem.W.Frag) (P : Program) (C fI : Addr) (name qual : Str) (params : Arguments) (body : List Stmt) (scope : Scope) (y z : Str) : Prop where
  fn : ∃ (oc : Value) (od : Option Addr) (kV doc pm : Value) (an : Option Addr) (cda cc : Addr) (ct : Value) (osl : Array (Option Value)), K.lookup fI = some ⟨oc, od, .func (PySem.W.ksFn name qual params body scope .none kV doc pm an (.ref cda) ct cc), osl⟩ ∧ PySem.W.codeIn K (.ref cda) qual = true ∧
    (∃ ccl cdd vs ccs file tf, K.lookup cda = some ⟨ccl, cdd, .fields vs, ccs⟩ ∧ vs[2]? = some (.str file tf) ∧ ((P.main.file : Str) == file) = true) ∧ ∃ cl cld csl, K.lookup cc = some ⟨cl, cld, .cell (some (.ref C)), csl⟩
  par : ∃ ar, (params.posonlyargs ++ params.args).head? = some ar ∧ ar.arg = y
  bind : ∀ (kV doc pm : Value) (an : Option Addr) (cd ct : Value) (cc : Addr) (u v : Value), bindArgs (PySem.W.ksFn name qual params body scope .none kV doc pm an cd ct cc) ⟨[u, v], []⟩ = pure [(y, u), (z, v)]
open Builtin Builtin.ObjectAttr in
theorem x_osa {prog : Program} {w : World} {A : Around} {R : Result → Shared → Prop} {hp : Heap} {g : Array GenState} {d : Drawn} {t : Nat} {os : OsState} {K : PySem.W.Frag} {name : Str} {tk : Tok} {v : Value} {x C : Addr} {fv : Array Value} (X : K.In hp) (hx : hp.get? x = some { cls := .ref C, data := .fields fv })
    (ov : PySem.W.excOver K C xTail = true) (hd : PySem.W.hasDictIn K C = true) (ht : PySem.W.takerIn K C name = some none)
    (hq : ∀ h' tk' dx, (∀ b o, b ≠ x → hp.get? b = some o → h'.get? b = some o) → hp.objs.size ≤ dx → dx ≠ x → h'.get? x = some { cls := .ref C, dict := some dx, data := .fields fv } → h'.Ns1 dx (fun y => if y = name then some v else none) → R (.ok (.ret .none)) ⟨h', g, d, tk', os⟩) :
    codeAny (model prog w) A (.call (.builtin "object.__setattr__") ⟨[.ref x, .str name tk, v], []⟩) R ⟨hp, g, d, t, os⟩ := by
  have hxs : x ≠ hp.objs.size := Nat.ne_of_lt (Heap.lt_size hx)
  refine PySem.W.osa_openX (s := ⟨hp, g, d, t, os⟩) (od := none) PySem.F.store_Exception X ⟨hx, rfl, rfl, trivial⟩ ov ht fun b => ?_
  obtain ⟨cd, hcd, hh⟩ := PySem.W.any_some hd
  have hcls : PySem.W.Looks (model prog w) hp (classData C) cd := PySem.W.looks_clsIn X hcd
  obtain ⟨nm, bs, mro, ns, qn, hd', sn, sb, ab, col, del⟩ := cd
  dsimp only at hh
  subst hh
  show wpAny _ _ (storeInOwnDict (.ref x) (.ref C) (.str name tk) name v b) _ _ _
  unfold storeInOwnDict ownDictForStores
  repeat (first | with_reducible refine HandSPX.store_in_new ?_ ?_ | with_reducible refine wpAny_loadPart_at hx ?_ | with_reducible refine hcls.at ?_ | wp_step)
  · exact ⟨_, #[], _, (Heap.get?_update_ne _ _ _ _ hxs.symm).trans (Heap.get?_push_at rfl rfl), rfl, fun e he => absurd he (by simp), fun _ => rfl⟩
  · intro h' tk' hn' hs
    have hx1 : (hp.push { cls := .type "dict", data := .dict #[] }).get? x = some { cls := .ref C, data := .fields fv } := Heap.get?_push_of_some _ hx
    refine hq h' tk' hp.objs.size (fun b o hb ho => ?_) (Nat.le_refl _) hxs.symm ?_ hn'
    · exact (hs.2 b (Nat.ne_of_lt (Heap.lt_size ho))).trans ((Heap.get?_update_ne _ _ _ _ hb).trans (Heap.get?_push_of_some _ ho))
    · exact (hs.2 x hxs).trans (Heap.get?_update_self _ hx1 rfl)
theorem x_init {P : Program} {w : World} {K : PySem.W.Frag} {mg : Str → Option Value} {base : Heap} {C fI : Addr} {name qual : Str} {params : Arguments} {body : List Stmt} {scope : Scope} {f y z : Str} (T : XcC K P C fI f) (B : XiB qual body scope f y z) (F : XiF K P C fI name qual params body scope y z)
    {A : Around} {R : Result → Shared → Prop} {h : Heap} {g : Array GenState} {d : Drawn} {t : Nat} {os : OsState} {e t0 : Addr} {u : Value} (mod : Mod K mg base) (hb : ∀ b o, base.get? b = some o → h.get? b = some o) (hms : mg "super" = none) (htop : (P.main.scope.names.lookup ("super" : Str)).isSome = false) (hroom : A.depth < recursionLimit) (hbe : base.get? e = none) (he : h.get? e = some (HandSPX.excO C t0))
    (hq : ∀ h' t' t1 dx, (∀ b o, b ≠ e → h.get? b = some o → h'.get? b = some o) → h.objs.size ≤ dx → dx ≠ e → h'.get? e = some ({ cls := .ref C, dict := some dx, data := .fields #[.ref t1, .none, .none, .none, .bool false, .none] } : Obj) → h'.Ns1 dx (fun q => if q = f then some u else none) → R (.ok (.ret .none)) ⟨h', g, d, t', os⟩) :
    codeAny (model P w) A (.call (.ref fI) ⟨[.ref e, u], []⟩) R ⟨h, g, d, t, os⟩ := by
  obtain ⟨oc, od, kV, doc, pm, an, cda, cc, ct, osl, lk, hcd, ⟨ccl, cdd, cvs, ccs, file, tf, lcd, hvs, hfile⟩, cl, cld, csl, lcc⟩ := F.fn
  obtain ⟨ar, har, earg⟩ := F.par
  obtain ⟨p0, p1, p2, p3, p4, p5, p6, p7, p8, p9, rfl, hsw⟩ := B.ex
  have X : K.In h := mod.kin.keeps hb
  obtain ⟨mb, hmb, hbb⟩ := mod.blt
  obtain ⟨nm, N', qn, bs, bm, hdct, sn, sub, ab, col, dd, k0, k1, k2, k3, k5, hC, hT⟩ := PySem.W.excInit_of X T.made
  obtain ⟨cdD, hcD, -⟩ := PySem.W.any_some T.hd
  refine PySem.ks_codeAny_call_defAt (fd := PySem.W.ksFn name qual params _ scope .none kV doc pm an (.ref cda) ct cc) (binds := [(y, .ref e), (z, u)]) hroom (X _ _ lk) rfl (mod.nolimit.keeps hb) (PySem.W.codeRec_of X hcd) rfl (BindsTo.of_eq (F.bind _ _ _ _ _ _ _ _ _)) B.cell (fun q hq => ?_) (fun h1 hns hk => ?_) B.co B.gen B.kind
  · rcases List.mem_cons.mp hq with rfl | hq
    · exact B.ly
    · rw [List.mem_singleton.mp hq]; exact B.lz
  have K1 : ∀ b o, base.get? b = some o → h1.get? b = some o := fun b o q => hk b o (hb b o q)
  have X1 : K.In h1 := mod.kin.keeps K1
  have he1 := hk _ _ he
  have hC1 := hk _ _ hC
  have my : ([(y, Value.ref e), (z, u)] : List (Str × Value)).reverse.lookup y = some (.ref e) := by
    show List.lookup y [(z, u), (y, Value.ref e)] = _
    rw [List.lookup_cons, show (y == z) = false from beq_eq_false_iff_ne.mpr B.ne]
    show List.lookup y [(y, Value.ref e)] = _
    rw [List.lookup_cons, show (y == y) = true from beq_self_eq_true y]
  have mz : ([(y, Value.ref e), (z, u)] : List (Str × Value)).reverse.lookup z = some u := by
    show List.lookup z [(z, u), (y, Value.ref e)] = _
    rw [List.lookup_cons, show (z == z) = true from beq_self_eq_true z]
  have lt : ∀ {a o}, h1.get? a = some o → a < h1.objs.size := fun q => Heap.lt_size q
  have neC : e ≠ C := fun q => by
    rw [q] at he
    rw [hC] at he
    cases he
  obtain ⟨⟨pl, hev⟩, hs1, hs2⟩ := hsw h.objs.size fI cda cc
  refine PySem.ks_wpAt_execs_cons ?_
  refine PySem.ks_wpAt_Expr_any ?_ (by show ((scope.kind == ScopeKind.module) && _) = false; rw [B.kind]; rfl) hs1
  refine PySem.ks_wpAt_MethodCall ?_ hev
  refine PySem.ks_wpAt_super_base B.sup B.cls (by decide) rfl (X1 _ _ lk) rfl har rfl (X1 _ _ lcd) rfl hvs hfile htop ?_
  refine PySem.W.ks_loadName_global B.kind B.sup (PySem.Calls.loadGlobal_builtin (mg := mg) (mb := mb) ?_ hms ?_ ((hbb _ (by decide)).trans (by rfl)) ⟨rfl, ?_⟩)
  · exact mod.glob.keeps K1
  · exact hmb.keeps K1
  refine wpAny_loadName_free B.kind B.cls rfl ⟨_, X1 _ _ lcc, rfl⟩ ?_
  rw [earg]
  refine wpAny_loadName_local B.kind B.ly hns my ?_
  refine PySem.ks_wpAny_isType_cls hC1 rfl ⟨rfl, ?_⟩
  refine PySem.ks_wpAny_call_super hC1 rfl he1 rfl (fun c q => by cases q) (PySem.W.looks_mroIn X1 T.sb) (fun h2 hso k2 => ?_)
  have X2 : K.In h2 := X1.keeps k2
  obtain ⟨cdC, hcC⟩ : ∃ cdC, PySem.W.clsIn K C = some cdC := ⟨_, hcD⟩
  have al := T.al
  unfold PySem.W.ks_superIn at al
  rw [hcC, Option.bind_some] at al
  have LC : PySem.W.Looks (model P w) h2 (mroOf (.ref C)) cdC.mro := (PySem.W.looks_clsIn X2 hcC).andThen .now
  have he2 := k2 _ _ he1
  have LE : PySem.W.Looks (model P w) h2 (isInstance (.ref e) (.type "Exception")) true := PySem.W.Looks.andThen (fun A Q E s k q => wpAny_typeOf_ref (k _ _ he2) q) (PySem.W.looks_mroIn X2 T.exE)
  refine PySem.ESX.getMethod_super hso (PySem.W.looks_opaque X2 T.opq) LC rfl X2 al neC (by decide) LE ?_
  have kp3 : ∀ b o, h2.get? b = some o → (h2.push (PySem.ESX.bw e)).get? b = some o := fun b o q => Heap.get?_push_of_some _ q
  show wpAny _ _ (callWith p4 (.ref h2.objs.size) [] (backTo p4 (starEach [.Name z p3] _)) []) _ _ _
  refine PySem.ESX.callWith_bound (x := e) (Calls.spliced_cons (PySem.ESX.ldL (m := fun q => ([(y, Value.ref e), (z, u)] : List (Str × Value)).reverse.lookup q) ?_ mz (Calls.spliced_nil ⟨?_, ?_⟩) B.kind B.lz B.dz))
  · exact (hns.keeps k2).keeps kp3
  · exact Heap.get?_push_size _ rfl
  refine PySem.ESX.call_bw (kp3 _ _ (k2 _ _ hC1)) (kp3 _ _ he2) (Heap.get?_push_size _ rfl) (by rw [sizeLine_eq]; show 1 ≤ _; omega) fun h4 t1 k4 he4 => ?_
  have kk : ∀ b o, b ≠ e → h1.get? b = some o → h4.get? b = some o := fun b o hbe q => k4 b o hbe (kp3 _ _ (k2 _ _ q))
  have neB : ∀ b o, base.get? b = some o → b ≠ e := fun b o q z => by
    rw [z, hbe] at q
    cases q
  refine PySem.ks_wpAt_execs_cons ?_
  have X4 : K.In h4 := mod.kin.keeps fun b o q => kk b o (neB b o q) (K1 b o q)
  have hns4 : h4.Ns h.objs.size fun q => ([(y, Value.ref e), (z, u)] : List (Str × Value)).reverse.lookup q := by
    obtain ⟨ol, es, ep, q1, q2⟩ := hns
    exact ⟨ol, es, ep, kk _ _ (Nat.ne_of_gt (Heap.lt_size he)) q1, q2⟩
  refine PySem.ks_wpAt_Assign_Attr (wpAt_of_wpAny (PySem.ESX.ldL hns4 mz (PySem.ESX.ldL hns4 my ?_ B.kind B.ly B.dy) B.kind B.lz B.dz)) hs2
  refine PySem.W.set_plain (od := none) X4 ⟨he4, rfl, rfl, trivial⟩ T.sa (x_osa X4 he4 T.ov T.hd T.tk fun h5 tk5 dx k5 hd1 hd2 he5 hns5 => ?_)
  have hsz : h.objs.size < h4.objs.size := by
    obtain ⟨ol, es, ep, q1, q2⟩ := hns4
    exact Heap.lt_size q1
  exact PySem.wpAt_of_wpAny (wpAny_execs_nil (hq h5 tk5 t1 dx (fun b o hbe' q => k5 b o hbe' (kk b o hbe' (hk b o q))) (Nat.le_of_lt (Nat.lt_of_lt_of_le hsz hd1)) hd2 he5 hns5))
/-- C(e), an own exception -/
theorem pmk_x {X : Cx} {C fI : Addr} {c name qual : Str} {params : Arguments} {body : List Stmt} {scope : Scope} {f y z : Str} {n : Nat} {e : Expr} {ta : TA} {p pos : Pos} (T : XcC X.K X.prog C fI f) (B : XiB qual body scope f y z) (F : XiF X.K X.prog C fI name qual params body scope y z)
    (hr : Rq (n + 1) X.A) (hms : X.mg "super" = none) (htop : (X.prog.main.scope.names.lookup ("super" : Str)).isSome = false) (hg : Gl X c) (hm : X.mg c = some (.ref C)) (ha : PA X [e] ta) (hdb : (c == ("__debug__" : Str)) = false := by decide) (he : starEach [e] X.env = (false, eval e X.env) :: starEach [] X.env := by rfl) (hpl : (backTo pos (starEach [] X.env)).any (·.1) = false := by rfl) :
    PMk X (.Call (.Name c p) [e] [] pos) (fun σ H Q => ta σ H fun vs H1 => ∃ v, vs = [v] ∧ ∀ d, H1 d = none → Q (.ref C) (some d) (upd H1 d (.xd [(f, v)]))) := by
  intro pins s σ H Q I h
  refine wpAny_Call_Name_kw (ld_glob I hg hm ?_ hdb)
  refine PySem.W.callWith_K (h₀ := X.base) I.ok.mod.kin T.kC (thn (ha.run pos pins s σ H _ I h) fun us s1 ⟨vs, H1, I1, r1, v, ev, q1⟩ => ⟨I1.kIn, ?_⟩) he hpl
  subst ev
  obtain ⟨u, rfl, ru⟩ : ∃ u, us = [u] ∧ L2.RelV v u := by
    cases r1 with
    | cons a b => cases b; exact ⟨_, rfl, a⟩
  show wpAny _ _ (call (.ref C) [u]) _ _ _
  obtain ⟨hp, g, dr, tk, os⟩ := s1
  have kk : ∀ b o, hp.get? b = some o → ((hp.push (PySem.W.kdv_tup [u])).push (PySem.HandSPX.excO C hp.objs.size)).get? b = some o := fun b o e => Heap.get?_push_of_some _ (Heap.get?_push_of_some _ e)
  have hget : ((hp.push (PySem.W.kdv_tup [u])).push (PySem.HandSPX.excO C hp.objs.size)).get? (hp.objs.size + 1) = some (PySem.HandSPX.excO C hp.objs.size) := by heap_get
  have hX := I1.kIn
  obtain ⟨nm, N', qn, bs, bm, hdct, sn, sub, ab, col, dd, k0, k1, k2, k3, k5, hC, hT⟩ := PySem.W.excInit_of hX T.made
  have bsz : ∀ b o, X.base.get? b = some o → hp.get? b = some o := fun b o q => (I1.bs b o q).1
  have hbe : X.base.get? (hp.objs.size + 1) = none := by
    cases q : X.base.get? (hp.objs.size + 1) with
    | none => rfl
    | some o => exact absurd (Heap.lt_size (bsz _ _ q)) (Nat.not_lt.mpr (Nat.le_succ _))
  have hdp : (X.A.under (.builtin "type.__call__" ⟨.ref C :: [u], []⟩)).depth < recursionLimit := by have := hr.r.dp; rw [make_depth]; omega
  refine wpAny_call (PySem.HandSPX.call_own PySem.F.excBase_Exception hT hC (PySem.W.looks_findIn hX T.iC) (fun self => PySem.W.bind_fn hX self T.tI) (by rw [sizeLine_eq]; show 1 ≤ _; omega)
    (x_init T B F I1.ok.mod (fun b o q => kk b o (bsz b o q)) hms htop hdp hbe hget fun h' t' t1 dx k' hd1 hd2 he' hns' => ?_))
  refine ⟨rfl, ?_⟩
  have hsz : hp.objs.size ≤ dx := by
    exact Nat.le_trans (Nat.le_of_lt (Nat.lt_of_le_of_lt (Nat.le_succ _) (Heap.lt_size hget))) hd1
  obtain ⟨G, g1, g2⟩ := restrict h' fun b => decide (b ≠ hp.objs.size + 1)
  have gk : ∀ b, b ≠ hp.objs.size + 1 → G.get? b = h'.get? b := fun b hb => g1 b (decide_eq_true hb)
  have ge : G.get? (hp.objs.size + 1) = none := g2 _ (by simp)
  have kG : ∀ b o, hp.get? b = some o → G.get? b = some o := fun b o q => by
    have hb : b ≠ hp.objs.size + 1 := fun z => by rw [z] at q; exact absurd (Heap.lt_size q) (Nat.not_lt.mpr (Nat.le_succ _))
    rw [gk b hb]; exact k' b o hb (kk b o q)
  have hn : H1 dx = none := I1.hok.fresh hsz
  obtain ⟨ol, es, ep, ho, hrest⟩ := hns'
  have okd : ObjOk X.prog X.w (upd H1 dx (.xd [(f, v)])) G dx (.xd [(f, v)]) := ⟨fun q => if q = f then some u else none, ⟨ol, es, ep, (gk dx hd2).trans ho, hrest⟩, fun q => by
    rw [List.lookup_cons]
    by_cases hqf : q = f
    · subst hqf
      rw [show (q == q) = true from beq_self_eq_true q]
      show L2.RelO (some v) (if q = q then some u else none)
      rw [if_pos rfl]
      exact ru
    · rw [show (q == f) = false from beq_eq_false_iff_ne.mpr hqf]
      show L2.RelO none (if q = f then some u else none)
      rw [if_neg hqf]
      exact True.intro⟩
  have J : Inv X pins σ (upd H1 dx (.xd [(f, v)])) ⟨G, g, dr, t', os⟩ := I1.laid (t' := t') (a := dx) (o := .xd [(f, v)]) (h' := G) kG hsz okd
  refine ⟨hp.objs.size + 1, _, _, ⟨G, g, dr, t', os⟩, _, .ref C, some dx, rfl, J, fun b o q => ?_, ge, he', ⟨rfl, rfl⟩, rfl, rfl, ?_, rfl, J.bare, raises_own T.exC T.tyC, q1 dx hn⟩
  · by_cases hb : b = hp.objs.size + 1
    · rw [hb, ge] at q; cases q
    · rw [← gk b hb]; exact q
  · rw [upd_ne (Ne.symm hd2)]
    exact I1.hok.fresh (Nat.le_succ _)
section
variable {V0 : Ev} {W : WX} {X : Cx} {n : Nat} {e : Expr} {ie : IE} {p pos pos2 : Pos}
/-- raise C(e) -/
theorem s_raise {fI : Addr} {c name qual : Str} {params : Arguments} {body : List Stmt} {scope : Scope} {y z : Str} (C : Cq V0 W X (n + 1)) (T : XcC X.K X.prog (V0.cl c) fI (V0.fld c)) (B : XiB qual body scope (V0.fld c) y z) (F : XiF X.K X.prog (V0.cl c) fI name qual params body scope y z)
    (hms : X.mg "super" = none) (htop : (X.prog.main.scope.names.lookup ("super" : Str)).isSome = false) (hm : X.mg c = some (.ref (V0.cl c))) (he : SE V0 W X e ie) (hg : Gl X c := by rfl) (hdb : (c == ("__debug__" : Str)) = false := by decide)
    (hs : starEach [e] X.env = (false, eval e X.env) :: starEach [] X.env := by rfl) (hpl : (backTo pos (starEach [] X.env)).any (·.1) = false := by rfl) : PS X (.Raise (some (.Call (.Name c p) [e] [] pos)) none pos2) (tS V0 W (.raise c ie)) :=
  psImp (ps_raise C.calm C.tk (pmk_x T B F C.rq hms htop hg hm (pax_cons he pax_nil hs) hdb hs hpl)) fun D σ H => by
  rintro ⟨g, t, k, hgk, S, q⟩
  have q0 : PostS V0 W g t H ((data (ev V0.G t ie k)).thn t fun x k => .ex c x t k) D := q
  refine ⟨g, t, k, S, ?_⟩
  have q2 := PostS.thn (rel := fun H g v x => Rp V0.K H (g.Ex t) v x) (Q := fun v H1 => ∀ d, H1 d = none → W (.ref (V0.cl c)) (some d) σ (upd H1 d (.xd [(V0.fld c, v)]))) S q0 fun a k1 b H1 d1 e1 S1 r1 p1 d hd => by
    have eh : Ext (g.at d1).dk d1 H1 (upd H1 d (.xd [(V0.fld c, b)])) := Ext.all (upd_keep hd)
    have S2 := S1.grow (upd_keep (u := .xd [(V0.fld c, b)]) hd)
    exact p1 (g.at d1) σ _ d b (stp_of S1 eh) S2 (r1.mv (mv_upd hd)) ⟨upd_same, fun z => S1.exs z hd⟩
  show PostR V0 W g σ t H ((data (ev V0.G t ie k)).bind fun s k => (evx V0.G t [] k).bind fun r k => .ok (s :: r) k) (relRD V0 t) _
  revert q2
  cases data (ev V0.G t ie k) with
  | no => exact fun q => q
  | ex c' y k' => exact fun q => q
  | ok y k' =>
    intro q2 vs H1 d1 e1 S1 r1
    cases r1 with
    | cons ra rb => cases rb; exact ⟨_, rfl, q2 _ H1 d1 e1 S1 ra⟩
end
end Q

/-! try .. except: clauses of one class or a tuple of classes, with a name or without -/
namespace Q
open PySem PySem.Spec PyProof.Rows L2
open PySem.W PySem.Calls in
theorem exm_l1 {M : Model} {A : Around} {E : Value → Shared → Prop} {h : Heap} {g : Array GenState} {d : Drawn} {tk : Nat} {os : OsState} {Z : Sem (ForInStep PUnit)} {Q : PUnit → Shared → Prop} (q : Q PUnit.unit ⟨h, g, d, tk, os⟩) : ∀ cs : List Value, (∀ c ∈ cs, Looks M h (isExcClass c) true) →
    wpAny M A (forIn cs PUnit.unit fun c _ => do
      let b ← isExcClass c
      if (!b) = true then Z else pure (ForInStep.yield PUnit.unit)) Q E ⟨h, g, d, tk, os⟩
  | [], _ => by
    rw [List.forIn_nil]
    exact wpAny_pure q
  | c :: cs, hc => by
    rw [List.forIn_cons]
    refine wpAny_bind (wpAny_bind ((hc c List.mem_cons_self).at ?_))
    rw [if_neg (by decide)]
    exact wpAny_pure (exm_l1 q cs fun x hx => hc x (List.mem_cons_of_mem _ hx))
open PySem.W PySem.Calls in
theorem exm_l2 {M : Model} {A : Around} {E : Value → Shared → Prop} {h : Heap} {g : Array GenState} {d : Drawn} {tk : Nat} {os : OsState} {K : Frag} {cls : Value} {Q : Option Bool × Unit → Shared → Prop} (k : ∀ c b, exmOne K cls c = some b → Looks M h (isSubtype cls c) b) : ∀ (cs : List Value) (b : Bool), exmAny K cls cs = some b →
    Q (if b then some true else none, ()) ⟨h, g, d, tk, os⟩ →
    wpAny M A (forIn cs ((none : Option Bool), ()) fun c _ => do
      let b ← isSubtype cls c
      if b = true then pure (ForInStep.done (some true, ())) else pure (ForInStep.yield (none, ()))) Q E ⟨h, g, d, tk, os⟩
  | [], b, hb, q => by
    cases hb
    rw [List.forIn_nil]
    exact wpAny_pure q
  | c :: cs, b, hb, q => by
    obtain ⟨b1, d1, x1, y1, rfl⟩ := exmAny_cons hb
    rw [List.forIn_cons]
    refine wpAny_bind (wpAny_bind ((k c b1 x1).at ?_))
    cases b1 with
    | true =>
      rw [if_pos rfl]
      exact wpAny_pure (wpAny_pure q)
    | false =>
      rw [if_neg (by decide)]
      exact wpAny_pure (exm_l2 k cs d1 y1 (by rw [Bool.false_or] at q; exact q))
open PySem.W PySem.Calls in
theorem exm_many {M : Model} {K : Frag} {cs : List Value} {cls : Value} {tp e : Addr} {b : Bool} {h : Heap} (X : K.In h) (LT : Looks M h (typeOf (.ref e)) cls) (hp : h.get? tp = some { cls := .type "tuple", data := .seq cs.toArray }) (hx : exmAny K cls cs = some b) :
    Looks M h (excMatches (.ref e) (.ref tp)) b := by
  intro A Q E s k0 q
  obtain ⟨hh, g, d, tk, os⟩ := s
  have k : ∀ b o, h.get? b = some o → hh.get? b = some o := k0
  have LT0 : Looks M h (isInstance (.ref tp) (.type "tuple")) true := ((Looks.ld hp).andThen .now).andThen (Looks.of_pure isSubtype_tuple_tuple)
  have LT := LT.keeps k
  have LT0 := LT0.keeps k
  have hp' := k _ _ hp
  have ea : ∀ (cs : List Value) (b : Bool), exmAny K cls cs = some b → ∀ c ∈ cs, Looks M hh (isExcClass c) true := by
    intro cs
    induction cs with
    | nil => intro b _ c hc; cases hc
    | cons c0 r ih =>
      intro b hb c hc
      obtain ⟨b1, d1, x1, y1, _⟩ := exmAny_cons hb
      rcases List.mem_cons.mp hc with rfl | hc
      · exact (exm_cls (M := M) X x1).1.keeps k
      · exact ih d1 y1 c hc
  unfold excMatches
  refine wpAny_bind (LT0.at ?_)
  dsimp only
  rw [if_pos rfl]
  first
    | refine wpAny_bind (wpAny_seqItems hp' rfl ?_)
    | refine wpAny_bind (wpAny_bind (wpAny_seqItems hp' rfl (wpAny_pure ?_)))
  dsimp only [Option.getD_some, Option.getD]
  refine wpAny_bind (wpAny_pure (wpAny_bind (exm_l1 ?_ cs (ea cs b hx))))
  refine wpAny_bind (LT.at (wpAny_bind (exm_l2 (fun c b' h' => (exm_cls (M := M) X h').2.keeps k) cs b hx ?_)))
  cases b <;> exact wpAny_pure q
/-- the tests of the clauses -/
inductive NamesT (X : Cx) : List Expr → List Value → Prop
  | nil : NamesT X [] []
  | cons {x : Str} {c : Value} {np : Pos} {es : List Expr} {cs : List Value} : Gl X x → (x == ("__debug__" : Str)) = false → X.mg x = some c → NamesT X es cs → NamesT X (.Name x np :: es) (c :: cs)
inductive TestT (X : Cx) : Expr → List Value → Prop
  | one {x : Str} {c : Value} {np : Pos} : Gl X x → (x == ("__debug__" : Str)) = false → X.mg x = some c → TestT X (.Name x np) [c]
  | tup {es : List Expr} {cs : List Value} {kk : Nat} {pos : Pos} : NamesT X es cs → cs.length ≤ 1000 → TestT X (.Tuple es kk pos) cs
section
variable {X : Cx} {a : Addr} {pn : List (Addr × Obj)} {σ : L2.St} {H : Hp} {s : Shared} {E : Value → Shared → Prop}
theorem names_run {pos : Pos} (I : Inv (X.suite a pn) [] σ H s) : ∀ {es : List Expr} {cs : List Value}, NamesT X es cs → wpAny (model X.prog X.w) (X.A.mark (some (.ref a))) (spliced (backTo pos (starEach es X.env))) (fun vs s1 => vs = cs ∧ s1 = s) E s
  | _, _, .nil => Calls.spliced_nil ⟨rfl, rfl⟩
  | _, _, .cons (np := np) (es := es) hg hd hm r => by
    show wpAny _ _ (spliced ((false, eval (.Name _ np) X.env) :: backTo pos (starEach es X.env))) _ _ s
    refine Calls.spliced_cons (ld_glob (X := X.suite a pn) I hg hm ?_ hd)
    exact wpAny_mono (names_run I r) (fun vs s1 ⟨e1, e2⟩ => ⟨by rw [e1], e2⟩) fun _ _ z => z
theorem test_ok {te : Expr} {cs : List Value} {cls : Value} {b : Bool} {Q : Bool → Shared → Prop} (T : TestT X te cs) (I : Inv (X.suite a pn) [] σ H s) (LT : PySem.W.Looks (model X.prog X.w) s.heap (typeOf (.ref a)) cls) (hx : PySem.W.exmAny X.K cls cs = some b)
    (hq : ∀ s', (∀ b o, s.heap.get? b = some o → s'.heap.get? b = some o) → s'.os = s.os → s'.gens = s.gens → Q b s') : wpAny (model X.prog X.w) (X.A.mark (some (.ref a))) (eval te X.env) (fun c s1 => wpAny (model X.prog X.w) (X.A.mark (some (.ref a))) (excMatches (.ref a) c) Q E s1) E s := by
  cases T with
  | one hg hd hm =>
    obtain ⟨b1, d1, x1, y1, rfl⟩ := PySem.W.exmAny_cons hx
    have y2 : some false = some d1 := y1
    cases y2
    refine ld_glob (X := X.suite a pn) I hg hm ((PySem.W.exm_one (M := model X.prog X.w) I.kIn LT x1).here ?_) hd
    have := hq s (fun _ _ z => z) rfl rfl
    rw [Bool.or_false] at this
    exact this
  | tup hn hl =>
    refine wpAny_Tuple_spliced (wpAny_mono (names_run I hn) (fun vs s1 ⟨e1, e2⟩ => ?_) fun _ _ z => z)
    subst e1 e2
    have kp : ∀ b o, s1.heap.get? b = some o → (s1.heap.push { cls := .type "tuple", data := .seq vs.toArray }).get? b = some o := fun b o e => Heap.get?_push_of_some _ e
    refine ⟨by rw [sizeLine_eq]; omega, (exm_many (M := model X.prog X.w) (I.kIn.keeps kp) (LT.keeps kp) (Heap.get?_push_size _ rfl) hx).here (hq _ kp rfl rfl)⟩
end
/-- the exception that a suite holds -/
def Ev.exn (V0 : Ev) (a d : Addr) (c : Str) : Ev := { V0 with cl := { V0.cl with ex := some (a, d, c, V0.fld c) } }
inductive HdX (V0 : Ev) (X : Cx) : List ExceptHandler → List IH → Prop
  | nil : HdX V0 X [] []
  | asN {te : Expr} {ns : List Str} {i : Nat} {x : Str} {b0 : Stmt} {suite : List Stmt} {is : List IS} {pos' : Pos} {hs : List ExceptHandler} {ihs : List IH} (ht : TestT X te (ns.map fun c => .ref (V0.cl c))) (kn : ∀ c ∈ ns, V0.G.sub c c = true) (hi : X.N[i]? = some x) (hl : X.env.kindOf x = some .local)
      (hsu : ∀ (a : Addr) (oe : Obj) (c : Str) (d : Addr) (pn : List (Addr × Obj)), V0.G.sub c c = true → Zc (.ref (V0.cl c)) (some d) oe → (∃ vs, oe.data = .fields vs) → PSs (X.suite a ((a, oe) :: pn)) (b0 :: suite) (tSs (V0.exn a d c) Wf is)) (r : HdX V0 X hs ihs) :
      HdX V0 X (.ExceptHandler (some te) (some x) (b0 :: suite) pos' :: hs) (.h ns (some i) is :: ihs)
  | noN {te : Expr} {ns : List Str} {b0 : Stmt} {suite : List Stmt} {is : List IS} {pos' : Pos} {hs : List ExceptHandler} {ihs : List IH} (ht : TestT X te (ns.map fun c => .ref (V0.cl c))) (kn : ∀ c ∈ ns, V0.G.sub c c = true)
      (hsu : ∀ (a : Addr) (oe : Obj) (c : Str) (d : Addr) (pn : List (Addr × Obj)), V0.G.sub c c = true → Zc (.ref (V0.cl c)) (some d) oe → (∃ vs, oe.data = .fields vs) → PSs (X.suite a ((a, oe) :: pn)) (b0 :: suite) (tSs (V0.exn a d c) Wf is)) (r : HdX V0 X hs ihs) :
      HdX V0 X (.ExceptHandler (some te) none (b0 :: suite) pos' :: hs) (.h ns none is :: ihs)
theorem any_exm {K : PySem.W.Frag} {cl : Cls} {sub : Str → Str → Bool} {c : Str} (xm : ∀ d, sub d d = true → PySem.W.exmOne K (.ref (cl c)) (.ref (cl d)) = some (sub c d)) : ∀ ns : List Str, (∀ d ∈ ns, sub d d = true) → PySem.W.exmAny K (.ref (cl c)) (ns.map fun d => .ref (cl d)) = some (ns.any (sub c))
  | [], _ => rfl
  | d :: ns, h => by
    show (match PySem.W.exmOne K (.ref (cl c)) (.ref (cl d)), PySem.W.exmAny K (.ref (cl c)) (ns.map fun d => .ref (cl d)) with
      | some b, some d => some (b || d)
      | _, _ => none) = _
    rw [xm d (h d List.mem_cons_self), any_exm xm ns fun e he => h e (List.mem_cons_of_mem _ he)]
    rfl
/-- a state is one of another class map, if no exception, no lambda is held -/
theorem RSl.cls {K : PySem.W.Frag} {cl cl' : Cls} {H : Hp} {Ex : Addr → Prop} {d : Da} {v : V} {s : Sl} (h : RSl K cl H Ex d v s) (h1 : cl'.at_ = cl.at_) (h2 : cl'.P = cl.P) (h3 : cl'.w = cl.w) (h4 : cl'.lam = cl.lam) (h5 : xS s = false) : RSl K cl' H Ex d v s := by
  obtain ⟨at', P', w', T', ex', lam', h0'⟩ := cl'
  obtain ⟨at1, P1, w1, T1, ex1, lam1, h01⟩ := cl
  dsimp only at h1 h2 h3 h4
  subst h1 h2 h3 h4
  cases s with
  | exn c x => cases h5
  | _ => exact h
theorem Sim.cls {K : PySem.W.Frag} {cl cl' : Cls} {g : Gh} {H : Hp} {σ : L2.St} {t : Tau} {k : Ds} (S : Sim K cl g H σ t k) (h1 : cl'.at_ = cl.at_) (h2 : cl'.P = cl.P) (h3 : cl'.w = cl.w) (h4 : cl'.lam = cl.lam) (h5 : cl'.T = cl.T) (h6 : cl'.h0 = cl.h0) (hx : ∀ (i : Nat) (s : Sl), t[i]? = some (some s) → xS s = false) : Sim K cl' g H σ t k :=
  ⟨S.fr, S.kept, by rw [h5]; exact S.tab, by rw [h6]; exact S.was, S.dkr, S.ex, S.exd, S.len, fun i s h n => by
    obtain ⟨v, a, b⟩ := S.sl i s h n
    exact ⟨v, a, b.cls h1 h2 h3 h4 (hx i s h)⟩, S.own, S.inj⟩
theorem noX_of {t : Tau} (h : noX t = true) (i : Nat) (s : Sl) (q : t[i]? = some (some s)) : xS s = false := by
  have := List.all_eq_true.mp h _ (List.mem_of_getElem? q)
  simpa using this
theorem Sim.nox {K : PySem.W.Frag} {cl : Cls} {g : Gh} {H : Hp} {σ : L2.St} {t : Tau} {k : Ds} (S : Sim K cl g H σ t k) (h : cl.ex = none) (i : Nat) (s : Sl) (q : t[i]? = some (some s)) : xS s = false := by
  cases s with
  | exn c x =>
    obtain ⟨v, _, a, d, f, y, e, _⟩ := S.sl i _ q (fun xs z => by cases z)
    rw [h] at e; cases e
  | _ => rfl
theorem fly_keeps {B h h' : Heap} {l : List Env} {e : Addr} {Z : Obj → Prop} (x : HandSPX.FlyingZ B l e Z h) (k : ∀ b o, h.get? b = some o → h'.get? b = some o) : HandSPX.FlyingZ B l e Z h' := by
  obtain ⟨f1, f2, f3, oe, vs, T, oT, ts, e1, e2, e3, e4, e5, e6, e7, e8⟩ := x
  exact ⟨fun b o q => k b o (f1 b o q), f2, Heap.FunFrames.of_keeps (fun b o q _ => ⟨o, k b o q, rfl⟩) f3, oe, vs, T, oT, ts, k _ _ e1, e2, e3, e4, e5, e6, k _ _ e7, e8⟩
section
variable {V0 : Ev} {W : WX} {X : Cx} {n : Nat} {body : List Stmt} {h0 : ExceptHandler} {hds : List ExceptHandler} {ib : List IS} {ihs : List IH} {pos : Pos}
theorem s_try (C : Cq V0 W X n) (hs : X.stack = X.env :: X.outer) (hf : X.env.frame = some X.env.locals) (hx0 : V0.cl.ex = none) (xm : ∀ c d, V0.G.sub c c = true → V0.G.sub d d = true → PySem.W.exmOne X.K (.ref (V0.cl c)) (.ref (V0.cl d)) = some (V0.G.sub c d))
    (hb : ∀ (W' : WX) (pn : List (Addr × Obj)) (xe : Value → Shared → Prop), Takes (X.tr pn xe) W' → PassesOwn (model X.prog X.w) X.A X.env xe → PSs (X.tr pn xe) body (tSs V0 W' ib)) (hh : HdX V0 X (h0 :: hds) ihs) : PS X (.Try body (h0 :: hds) [] [] pos) (tS V0 W (.try_ ib ihs)) := by
  refine ⟨fun pins s σ H D I h => ?_⟩
  obtain ⟨g, t, k, hg, S, p⟩ := h
  have ok := I.ok
  have hfr : X.A.frames = some (X.env :: X.outer) := by rw [ok.frames, hs]
  have hp : PostS V0 (fun cls d σ' H' => ∃ (g' : Gh) (t' : Tau) (k' : Ds) (c : Str) (x : Q.D) (dd : Addr) (v : V), cls = .ref (V0.cl c) ∧ d = some dd ∧ Stp g t H g' t' H' ∧ Sim V0.K V0.cl g' H' σ' t' k' ∧ Rp V0.K H' (g'.Ex t') v x ∧ XdR H' (g'.Ex t') dd (V0.fld c) v ∧ V0.G.sub c c = true ∧ PostS V0 W g t H (handle V0.G ihs c x t' k') D) g t H (execs V0.G ib t k) D := by
    have p0 : PostS V0 W g t H (match execs V0.G ib t k with
      | .ex c x t k => if V0.G.sub c c then handle V0.G ihs c x t k else .no
      | r => r) D := p
    revert p0
    cases execs V0.G ib t k with
    | no => exact fun z => z.elim
    | ok f t' k' => exact fun z => z
    | ex c x t' k' =>
      intro z g' σ' H' d v st S' r hx
      have z' : PostS V0 W g t H (if V0.G.sub c c = true then handle V0.G ihs c x t' k' else .no) D := z
      by_cases hc : V0.G.sub c c = true
      · rw [if_pos hc] at z'; exact ⟨g', t', k', c, x, d, v, rfl, rfl, st, S', r, hx, hc, z'⟩
      · rw [if_neg hc] at z'; exact z'.elim
  refine wpAny_Try_except ?_
  refine wpAny_mono ((hb _ (X.pn ++ pins) (fun e s₁ => wpAny (model X.prog X.w) X.A (noteFrame e X.env) (fun _ s₂ => wpAny (model X.prog X.w) X.A (setFlight e none) (fun _ s₃ => wpAny (model X.prog X.w) X.A (handleBy e X.env (h0 :: hds)) (SP X pins D) X.xe s₃) X.xe s₂) X.xe s₁) (fun u s' xx => ?_) PassesOwn.looking).run [] s σ H D (I.toTry _) ⟨g, t, k, hg, S, hp⟩) (fun f s1 hsp => ?_) (fun e s1 he => he)
  · obtain ⟨a, B, sI, pins', σ', H', cls, d, rfl, J', nb, up, sky, na, os, ag, g', t', k', c, x, dd, v, rfl, rfl, st, S', rv, hx, hc, ph⟩ := xx
    have J : Inv X pins σ' H' sI := J'.ofTry ok
    have sky1 : Sky B (X.env :: X.outer) a (Zc (.ref (V0.cl c)) (some dd)) X.env.locals s'.heap := by rw [← hs]; exact sky
    have hex := S'.nox hx0
    show wpAny (model X.prog X.w) X.A (noteFrame (.ref a) X.env) _ _ _
    refine Sky.land Zc.steady hfr hf sky1 fun h3 fl3 up3 => ?_
    have go : ∀ {hds' : List ExceptHandler} {ihs' : List IH}, HdX V0 X hds' ihs' → PostS V0 W g t H (handle V0.G ihs' c x t' k') D → ∀ s2 : Shared, HandSPX.FlyingZ B (X.env :: X.outer) a (Zc (.ref (V0.cl c)) (some dd)) s2.heap → sI.heap.UpToSlots s2.heap → s2.os = sI.os → AllBare s2.gens →
        wpAny (model X.prog X.w) X.A (handleBy (.ref a) X.env hds') (SP X pins D) X.xe s2 := by
      intro hds' ihs' hk
      induction hk with
      | nil =>
        intro w s2 fl2 up2 os2 ag2
        refine wpAny_handleBy_nil ?_
        obtain ⟨k1, k2, k3, oe, vs, T, oT, ts', he, hz, hd, h1, hr⟩ := id fl2
        unfold PySem.passOn
        refine wpAny_bind (wpAny_field he hd h1 ?_)
        rw [if_neg (show ¬ ((Value.ref T == Value.none) = true) from by simp)]
        have fin : wpAny (model X.prog X.w) X.A (setFlight (.ref a) X.env.frame) (fun _ s4 => wpAny (model X.prog X.w) X.A (throw (.ref a) : Sem Flow) (SP X pins D) X.xe s4) X.xe s2 := by
          rw [hf]
          refine HandSPX.setFlight_upZ fl2 fun h4 hh4 up4 => wpAny_throw (C.tk _ _ ?_)
          exact ⟨a, B, sI, pins, σ', H', .ref (V0.cl c), some dd, rfl, J, nb, up2.trans up4, .inr (.inr (by rw [hs]; exact hh4)), na, os2, ag2, w g' σ' H' dd v st S' rv hx⟩
        first
          | exact wpAny_bind (wpAny_pure (wpAny_bind fin))
          | exact wpAny_bind fin
      | @asN te ns i nm b0 suite is pos' hs2 ihs2 ht kn hi hl hsu r ih =>
        intro w s2 fl2 up2 os2 ag2
        have w : PostS V0 W g t H (if ns.any (V0.G.sub c) then (match execs V0.G is (t'.set i (some (.exn c x))) k' with
          | .ok f t k => if noX (t.set i none) && noXf f then .ok f (t.set i none) k else .no
          | _ => .no) else handle V0.G ihs2 c x t' k') D := w
        have J2 : Inv X pins σ' H' s2 := J.landed nb fl2.1 up2 os2 ag2
        obtain ⟨oe2, vs2, he2, hz2, hd2⟩ := fl2.there
        have nfr : a ∉ frs (X.env :: X.outer) := fun hm => by
          obtain ⟨_, o', e', hnf⟩ := fl2.2.2.1.mem hm
          rw [he2] at e'; cases e'
          exact hnf _ hd2
        have nL : a ≠ X.env.locals := fun z => nfr (List.mem_filterMap.mpr ⟨X.env, List.mem_cons_self, by rw [hf, z]⟩)
        have nF : a ∉ X.fs := fun hm => by
          obtain ⟨e, he, q⟩ := List.mem_filterMap.mp hm
          exact nfr (List.mem_filterMap.mpr ⟨e, List.mem_cons_of_mem _ he, q⟩)
        have I2 := J2.suite he2 hd2 na nL nF
        refine wpAny_handleBy_cons (codeAny_handlers_test ?_) (by intro q; cases q)
        have LT : PySem.W.Looks (model X.prog X.w) s2.heap (typeOf (.ref a)) (.ref (V0.cl c)) := fun A Q E s k q => wpAny_typeOf_ref (k _ _ he2) (by rw [hz2.1]; exact q)
        refine test_ok ht I2 LT (any_exm (fun d hd => xm c d hc hd) ns kn) fun s3 k3 os3 gs3 => ?_
        have fl3 := fly_keeps fl2 k3
        have up3 : sI.heap.UpToSlots s3.heap := up2.trans (Heap.UpToSlots.of_keeps k3)
        have os3 : s3.os = sI.os := os3.trans os2
        have ag3 : AllBare s3.gens := by rw [gs3]; exact ag2
        cases hb : ns.any (V0.G.sub c) with
        | false =>
          rw [hb, if_neg (by decide)] at w
          exact ih w s3 fl3 up3 os3 ag3
        | true =>
          rw [hb, if_pos rfl] at w
          refine codeAny_handlers_suite_as ?_
          refine HandSPX.lands_againZ fl3 fun h4 fl4 up4 => ?_
          have J4 : Inv X pins σ' H' { s3 with heap := h4 } := J.landed nb fl4.1 (up3.trans up4) os3 ag3
          obtain ⟨oe4, vs4, he4, hz4, hd4⟩ := fl4.there
          have S4 := J4.suite he4 hd4 na nL nF
          refine store_ok (X := X.suite a ((a, oe4) :: (X.pn ++ pins))) (v := .ref a) S4 C.nd hi (.inl hl) rfl (fun s5 S5 => ?_) (.inr hl)
          have SX : Sim V0.K (V0.exn a dd c).cl g' H' (σ'.set i (some (.ref a))) (t'.set i (some (.exn c x))) k' :=
            (S'.cls (cl' := (V0.exn a dd c).cl) rfl rfl rfl rfl rfl rfl hex).put (fun xs z => by cases z) ⟨a, dd, V0.fld c, v, rfl, rfl, hx.h, hx.n, rv⟩
          have exle : ∀ b, g'.Ex (t'.set i (some (.exn c x))) b → g'.Ex t' b := own_less fun j xs h => by
            rcases set_get h with ⟨_, e, _⟩ | ⟨_, h⟩
            · cases e
            · exact h
          refine wpAny_mono ((hsu a oe4 c dd (X.pn ++ pins) hc hz4 ⟨_, hd4⟩).run [] s5 _ H' { nx := fun σ' H' => D.nx (σ'.set i none) H', rt := D.rt, bk := fun σ' H' => D.bk (σ'.set i none) H', ct := fun σ' H' => D.ct (σ'.set i none) H' } S5 ⟨g', t'.set i (some (.exn c x)), k', st.ok hg, SX, ?_⟩) (fun f s6 hsp => ?_) (fun _ _ z => False.elim z)
          · show PostS (V0.exn a dd c) Wf g' (t'.set i (some (.exn c x))) H' (execs V0.G is (t'.set i (some (.exn c x))) k') _
            revert w
            cases execs V0.G is (t'.set i (some (.exn c x))) k' with
            | no => exact fun z => z.elim
            | ex c' x' t6 k6 => exact fun z => z.elim
            | ok f t6 k6 =>
              intro w
              have w : PostS V0 W g t H (if (noX (t6.set i none) && noXf f) = true then .ok f (t6.set i none) k6 else .no) D := w
              by_cases hn : (noX (t6.set i none) && noXf f) = true
              case neg => rw [if_neg hn] at w; exact w.elim
              rw [if_pos hn] at w
              rw [Bool.and_eq_true] at hn
              intro g6 σ6 H6 s6 S6
              have ex6 : ∀ b, g6.Ex (t6.set i none) b → g6.Ex t6 b := own_less fun j xs h => by
                rcases set_get h with ⟨_, e, _⟩ | ⟨_, h⟩
                · cases e
                · exact h
              have st6 : Stp g t H g6 (t6.set i none) H6 := st.trans ⟨s6.h0, s6.e0, s6.dk, ((Mv.less exle).trans s6.mv).trans (Mv.less ex6)⟩
              have S7 : Sim V0.K V0.cl g6 H6 (σ6.set i none) (t6.set i none) k6 := (S6.drop i).cls (cl' := V0.cl) rfl rfl rfl rfl rfl rfl (noX_of hn.1)
              have q := w g6 (σ6.set i none) H6 st6 S7
              cases f with
              | nx => exact q
              | bk => exact q
              | ct => exact q
              | rt s => exact fun v6 r6 => q v6 ((r6.same ex6).cls rfl rfl rfl rfl (by have := hn.2; simpa [noXf] using this))
          · have end_ : ∀ {σ6 : L2.St} {H6 : Hp} {Q : Shared → Prop}, Inv (X.suite a ((a, oe4) :: (X.pn ++ pins))) [] σ6 H6 s6 → (∀ s7, Inv X pins (σ6.set i none) H6 s7 → Q s7) →
                wpAny (model X.prog X.w) X.A (do bindName X.env nm .none; unbindBehindTheSuite X.env nm pos') (fun _ s7 => Q s7) X.xe s6 := fun {σ6 H6 Q} S6 hq => gone_ok (S6.unsuite ok) C.nd hi hl hq
            cases f with
            | next =>
              obtain ⟨σ6, H6, S6, q6⟩ := hsp
              exact end_ S6 fun s7 J7 => ⟨_, _, J7, q6⟩
            | brk =>
              obtain ⟨σ6, H6, S6, q6⟩ := hsp
              exact end_ S6 fun s7 J7 => ⟨_, _, J7, q6⟩
            | cont =>
              obtain ⟨σ6, H6, S6, q6⟩ := hsp
              exact end_ S6 fun s7 J7 => ⟨_, _, J7, q6⟩
            | ret u =>
              obtain ⟨v6, σ6, H6, S6, r6, q6⟩ := hsp
              exact end_ S6 fun s7 J7 => ⟨_, _, _, J7, r6, q6⟩
      | @noN te ns b0 suite is pos' hs2 ihs2 ht kn hsu r ih =>
        intro w s2 fl2 up2 os2 ag2
        have w : PostS V0 W g t H (if ns.any (V0.G.sub c) then (match execs V0.G is t' k' with
          | .ok f t k => if noX t && noXf f then .ok f t k else .no
          | _ => .no) else handle V0.G ihs2 c x t' k') D := w
        have J2 : Inv X pins σ' H' s2 := J.landed nb fl2.1 up2 os2 ag2
        obtain ⟨oe2, vs2, he2, hz2, hd2⟩ := fl2.there
        have nfr : a ∉ frs (X.env :: X.outer) := fun hm => by
          obtain ⟨_, o', e', hnf⟩ := fl2.2.2.1.mem hm
          rw [he2] at e'; cases e'
          exact hnf _ hd2
        have nL : a ≠ X.env.locals := fun z => nfr (List.mem_filterMap.mpr ⟨X.env, List.mem_cons_self, by rw [hf, z]⟩)
        have nF : a ∉ X.fs := fun hm => by
          obtain ⟨e, he, q⟩ := List.mem_filterMap.mp hm
          exact nfr (List.mem_filterMap.mpr ⟨e, List.mem_cons_of_mem _ he, q⟩)
        have I2 := J2.suite he2 hd2 na nL nF
        refine wpAny_handleBy_cons (codeAny_handlers_test ?_) (by intro q; cases q)
        have LT : PySem.W.Looks (model X.prog X.w) s2.heap (typeOf (.ref a)) (.ref (V0.cl c)) := fun A Q E s k q => wpAny_typeOf_ref (k _ _ he2) (by rw [hz2.1]; exact q)
        refine test_ok ht I2 LT (any_exm (fun d hd => xm c d hc hd) ns kn) fun s3 k3 os3 gs3 => ?_
        have fl3 := fly_keeps fl2 k3
        have up3 : sI.heap.UpToSlots s3.heap := up2.trans (Heap.UpToSlots.of_keeps k3)
        have os3 : s3.os = sI.os := os3.trans os2
        have ag3 : AllBare s3.gens := by rw [gs3]; exact ag2
        cases hb : ns.any (V0.G.sub c) with
        | false =>
          rw [hb, if_neg (by decide)] at w
          exact ih w s3 fl3 up3 os3 ag3
        | true =>
          rw [hb, if_pos rfl] at w
          refine codeAny_handlers_suite ?_
          refine HandSPX.lands_againZ fl3 fun h4 fl4 up4 => ?_
          have J4 : Inv X pins σ' H' { s3 with heap := h4 } := J.landed nb fl4.1 (up3.trans up4) os3 ag3
          obtain ⟨oe4, vs4, he4, hz4, hd4⟩ := fl4.there
          have S4 := J4.suite he4 hd4 na nL nF
          have SX : Sim V0.K (V0.exn a dd c).cl g' H' σ' t' k' := S'.cls (cl' := (V0.exn a dd c).cl) rfl rfl rfl rfl rfl rfl hex
          refine wpAny_mono ((hsu a oe4 c dd (X.pn ++ pins) hc hz4 ⟨_, hd4⟩).run [] _ _ H' D S4 ⟨g', t', k', st.ok hg, SX, ?_⟩) (fun f s6 hsp => ?_) (fun _ _ z => False.elim z)
          · show PostS (V0.exn a dd c) Wf g' t' H' (execs V0.G is t' k') _
            revert w
            cases execs V0.G is t' k' with
            | no => exact fun z => z.elim
            | ex c' x' t6 k6 => exact fun z => z.elim
            | ok f t6 k6 =>
              intro w
              have w : PostS V0 W g t H (if (noX t6 && noXf f) = true then .ok f t6 k6 else .no) D := w
              by_cases hn : (noX t6 && noXf f) = true
              case neg => rw [if_neg hn] at w; exact w.elim
              rw [if_pos hn] at w
              rw [Bool.and_eq_true] at hn
              intro g6 σ6 H6 s6 S6
              have st6 : Stp g t H g6 t6 H6 := st.trans s6
              have S7 : Sim V0.K V0.cl g6 H6 σ6 t6 k6 := S6.cls (cl' := V0.cl) rfl rfl rfl rfl rfl rfl (noX_of hn.1)
              have q := w g6 σ6 H6 st6 S7
              cases f with
              | nx => exact q
              | bk => exact q
              | ct => exact q
              | rt s => exact fun v6 r6 => q v6 (r6.cls rfl rfl rfl rfl (by have := hn.2; simpa [noXf] using this))
          · cases f with
            | next =>
              obtain ⟨σ6, H6, S6, q6⟩ := hsp
              exact ⟨_, _, S6.unsuite ok, q6⟩
            | brk =>
              obtain ⟨σ6, H6, S6, q6⟩ := hsp
              exact ⟨_, _, S6.unsuite ok, q6⟩
            | cont =>
              obtain ⟨σ6, H6, S6, q6⟩ := hsp
              exact ⟨_, _, S6.unsuite ok, q6⟩
            | ret u =>
              obtain ⟨v6, σ6, H6, S6, r6, q6⟩ := hsp
              exact ⟨_, _, _, S6.unsuite ok, r6, q6⟩
    exact go hh ph { s' with heap := h3 } fl3 (up.trans up3) os ag
  · cases f with
    | next =>
      obtain ⟨σ', H', J', q⟩ := hsp
      exact wpAny_execs_nil ⟨σ', H', J'.ofTry ok, q⟩
    | brk =>
      obtain ⟨σ', H', J', q⟩ := hsp
      exact ⟨σ', H', J'.ofTry ok, q⟩
    | cont =>
      obtain ⟨σ', H', J', q⟩ := hsp
      exact ⟨σ', H', J'.ofTry ok, q⟩
    | ret u =>
      obtain ⟨v, σ', H', J', r, q⟩ := hsp
      exact ⟨v, σ', H', J'.ofTry ok, r, q⟩
end
end Q

/-! what a suite asks of the exception that it holds; the classes' facts -/
namespace Q
open PySem PySem.Spec PyProof.Rows L2
/-- the own exceptions: their classes, how they are below each other -/
structure Xk (K : PySem.W.Frag) (cl : Str → Addr) (fld : Str → Str) (sub : Str → Str → Bool) : Prop where
  one : ∀ c, sub c c = true → ExcC K (cl c) ∧ PySem.W.findIn K (.ref (cl c)) (fld c) = some none
  exm : ∀ c d, sub c c = true → sub d d = true → PySem.W.exmOne K (.ref (cl c)) (.ref (cl d)) = some (sub c d)
  kit : ∀ c d, sub c c = true → sub d d = true → PySem.W.kitOne K (.ref (cl c)) (.ref (cl d)) = some (sub c d)
  fl : ∀ f c, sub ("." ++ f) c = true → fld c = f
theorem xf_of {K : PySem.W.Frag} {C : Addr} (x : ExcC K C) : XfC K C := ⟨x.hg, x.hk, x.hs, x.hd⟩
section
variable {V0 : Ev} {W : WX} {X : Cx} {a d : Addr} {oe : Obj} {c : Str} {pn : List (Addr × Obj)} {e : Expr} {i : Nat} {p p1 pos : Pos} {x f : Str}
/-- e.f -/
theorem se_xat (hK : V0.K = X.K) (Z : Xk X.K V0.cl.at_ V0.fld V0.G.sub) (hc : V0.G.sub c c = true) (hz : Zc (.ref (V0.cl c)) (some d) oe) (hf : ∃ vs, oe.data = .fields vs) (hv : PE (X.suite a ((a, oe) :: pn)) e (tVar i)) (hb : attributeBase e f X.env (eval e X.env) = eval e X.env := by rfl) :
    SE (V0.exn a d c) W (X.suite a ((a, oe) :: pn)) (.Attribute e f pos) (.xat i ("." ++ f)) := by
  have hfl : ∀ c', V0.G.sub ("." ++ f) c' = true → V0.fld c' = f := fun c' h => Z.fl f c' h
  have hfin : V0.fld c = f → PE (X.suite a ((a, oe) :: pn)) (.Attribute e f pos) (tXf a (.ref (V0.cl c)) (some d) (V0.cl c) f (tVar i)) := fun h => pe_xf (xf_of (Z.one c hc).1) (by rw [← h]; exact (Z.one c hc).2) hz hf hv hb
  by_cases hcf : V0.fld c = f
  · refine SE.mk' (peImp (hfin hcf) fun σ H Q => ?_) (fun i q => by cases q)
    rintro ⟨g, t, k, S, q⟩
    have q : PostR (V0.exn a d c) W g σ t H (match varT t i with
      | some (.exn c x) => if V0.G.sub ("." ++ f) c then .ok (.d x) k else .no
      | _ => .no) (relS' (V0.exn a d c) t) Q := q
    cases hs : varT t i with
    | none => rw [hs] at q; exact q.elim
    | some s =>
      rw [hs] at q
      cases s with
      | exn c' y =>
        have q1 : PostR (V0.exn a d c) W g σ t H (if V0.G.sub ("." ++ f) c' then .ok (.d y) k else .no) (relS' (V0.exn a d c) t) Q := q
        clear q
        by_cases h : V0.G.sub ("." ++ f) c' = true
        case neg => rw [if_neg h] at q1; exact q1.elim
        rw [if_pos h] at q1
        obtain ⟨v, s1, a', d', f', y', e1, rfl, e2, e3, e4⟩ := S.sl i _ (var_getD hs) (fun xs z => by cases z)
        cases e1
        refine ⟨.ref a, s1, rfl, rfl, d, _, y', rfl, e2, ?_, PostR.val S q1 e4⟩
        rw [List.lookup_cons, show (f == V0.fld c) = true from by rw [hcf]; exact beq_self_eq_true f]
      | _ => exact q.elim
  · refine SE.mk' ⟨fun pins s σ H Q I h => ?_⟩ (fun i q => by cases q)
    obtain ⟨g, t, k, S, q⟩ := h
    have q : PostR (V0.exn a d c) W g σ t H (match varT t i with
      | some (.exn c x) => if V0.G.sub ("." ++ f) c then .ok (.d x) k else .no
      | _ => .no) (relS' (V0.exn a d c) t) Q := q
    cases hs : varT t i with
    | none => rw [hs] at q; exact q.elim
    | some s =>
      rw [hs] at q
      cases s with
      | exn c' y =>
        have q : PostR (V0.exn a d c) W g σ t H (if V0.G.sub ("." ++ f) c' then .ok (.d y) k else .no) (relS' (V0.exn a d c) t) Q := q
        by_cases h : V0.G.sub ("." ++ f) c' = true
        case neg => rw [if_neg h] at q; exact q.elim
        obtain ⟨v, s1, a', d', f', y', e1, rfl, e2, e3, e4⟩ := S.sl i _ (var_getD hs) (fun xs z => by cases z)
        cases e1
        exact absurd (hfl c h) hcf
      | _ => exact q.elim
end
end Q

/-! a suite's forms; the context of a try's body -/
namespace Q
open PySem PySem.Spec PyProof.Rows L2
/-- what a suite's context is -/
structure Cs (V0 : Ev) (X : Cx) : Prop where
  K : V0.K = X.K
  gu : X.A.guards = some []
  un : X.A.units + 66 < cLine
  sys : SysM X.K
  nd : X.N.Nodup
section
variable {V0 : Ev} {W W' : WX} {X : Cx} {n : Nat} {x : Str} {a b e : Expr} {es : List Expr} {ia ib ie : IE} {ies : List IE} {pos p : Pos}
theorem Cq.tr {pn : List (Addr × Obj)} {xe : Value → Shared → Prop} (C : Cq V0 W X n) (tk : Takes (X.tr pn xe) W') : Cq V0 W' (X.tr pn xe) n := ⟨C.K, C.calm, C.rq, C.sys, C.nd, tk, C.cp, C.cw⟩
theorem mark_guards {A : Around} {v : Option Value} : (A.mark v).guards = A.guards := by first | rfl | simp [Around.mark]
theorem mark_units {A : Around} {v : Option Value} : (A.mark v).units = A.units := by first | rfl | simp [Around.mark]
theorem Cq.su {a' d : Addr} {c : Str} {pn : List (Addr × Obj)} (C : Cq V0 W X n) : Cs (V0.exn a' d c) (X.suite a' pn) := ⟨C.K, by show (X.A.mark _).guards = _; rw [mark_guards]; exact C.rq.gu, by show (X.A.mark _).units + 66 < _; rw [mark_units]; exact C.un, C.sys, C.nd⟩
theorem asgS {i : Nat} {pos' : Pos} (C : Cs V0 X) (he : SE V0 W X e ie) (hi : X.N[i]? = some x := by rfl) (hx : locB X.env.scope x = true := by rfl) (hf : X.fn x = true ∨ X.env.scope.names.lookup x = some .local := by first | exact .inl rfl | exact .inr rfl) (hs : swapsWith e (some (.Name x pos')) pos.line X.env = pure false := by rfl) :
    PS X (.Assign [.Name x pos'] e pos) (tS V0 W (.asg i ie)) := s_asg C.nd hi (loc_ok hx) hf he hs
end
end Q

/-! a lambda without parameters handed to a law's def of one parameter -/
namespace Q
open PySem PySem.Spec PyProof.Rows L2
theorem RSl.lent {K : PySem.W.Frag} {cl : Cls} {H : Hp} {Ex : Addr → Prop} {d : Da} {v : V} {l : Option (Nat × Tau × Addr × Addr × Str)} {h : Option (Hp × Da × (Addr → Prop))} (hl : cl.lam = none) : ∀ {s : Sl}, RSl K cl H Ex d v s → RSl K { cl with lam := l, h0 := h } H Ex d v s
  | .d _, r => r
  | .own _, r => r
  | .deck, r => r
  | .obj _ _, r => r
  | .clo _ _, ⟨_, _, _, e, _⟩ => by rw [hl] at e; cases e
  | .exn _ _, r => r
  | .slf, r => r
  | .dic _, r => r
/-- the maker's names, as the lambda's body meets them -/
theorem Sim.into {V0 V1 : Ev} {g gZ : Gh} {H HZ : Hp} {σ σZ : L2.St} {t tZ : Tau} {k kZ : Ds} {lm : Option (Nat × Tau × Addr × Addr × Str)} (hK : V1.K = V0.K) (hc : V1.cl = { V0.cl with lam := lm, h0 := some (H, g.dk, g.keep t) }) (hno : V0.cl.h0 = none) (S : Sim V0.K V0.cl g H σ t k) (SZ : Sim V1.K V1.cl gZ HZ σZ tZ kZ) :
    Sim V0.K V0.cl ⟨g.H0, fun b => g.Ex0 b ∨ gZ.keep tZ b, g.ad, gZ.dk⟩ HZ σ t kZ := by
  obtain ⟨w1, w2, w3⟩ := SZ.was H g.dk (g.keep t) (by rw [hc])
  have dkn : ∀ {b o}, H b = some o → ¬ isDk g.dk b → ¬ isDk gZ.dk b := fun {b o} h n z => by
    rcases w3 with q | ⟨_, q⟩
    · exact n (by rw [← q]; exact z)
    · rw [q b z] at h; cases h
  have go : ∀ {b o}, H b = some o → nt o = true → ¬ isDk g.dk b → HZ b = some o := fun {b o} h q n => SZ.fr b o (by rw [w1]; exact h) q (dkn h n)
  have m : Mv H HZ (g.Ex t) ((⟨g.H0, fun b => g.Ex0 b ∨ gZ.keep tZ b, g.ad, gZ.dk⟩ : Gh).Ex t) := by
    refine ⟨fun b o h q n => go h q fun z => n (.inr (.inl z)), fun b z => ?_, fun b h => SZ.kept b (by rw [w1]; exact h)⟩
    rcases z with (z | z | ⟨i, xs, z1, z2⟩) | z | z
    · exact .inl (.inl z)
    · rcases w2 b z with (y | y) | y
      · exact .inl (.inl y)
      · exact .inl (.inr (.inr y))
      · exact .inr y
    · obtain ⟨_, y, _⟩ := SZ.own i xs z1
      rw [w1, z2] at y
      exact .inr y
    · rcases w3 with q | ⟨_, q⟩
      · exact .inl (.inr (.inl (by rw [← q]; exact z)))
      · exact .inr (q b z)
    · exact .inl (.inr (.inr z))
  have da : ∀ p, g.dk = some p → gZ.dk = some p := fun p h => by
    rcases w3 with q | ⟨q, _⟩
    · rw [q]; exact h
    · rw [q] at h; cases h
  refine ⟨fun b o h q n => ?_, fun b h => SZ.kept b (by rw [w1]; exact S.kept b h), ?_, fun h d E q => (by rw [hno] at q; cases q), SZ.dkr, fun b z => ?_, fun b z y => ?_, S.len, fun i s h n => ?_, fun i xs h => ?_, S.inj⟩
  · have n1 : ¬ isDk g.dk b := fun z => by
      rcases w3 with y | ⟨y, _⟩
      · exact n (by show isDk gZ.dk b; rw [y]; exact z)
      · rw [y] at z; exact z
    exact go (S.fr b o h q n1) q n1
  · have e := SZ.tab
    rw [hc] at e
    exact e
  · rcases z with z | z | ⟨i, xs, z1, z2⟩
    · exact SZ.kept b (by rw [w1]; exact S.ex b z)
    · exact SZ.ex b z
    · exact SZ.exs (.inr (.inr ⟨i, xs, z1, z2⟩))
  · rcases z with z | z | ⟨i, xs, z1, z2⟩
    · rcases w3 with q | ⟨_, q⟩
      · exact S.exd b z (by rw [← q]; exact y)
      · exact S.ex b z (q b y)
    · exact SZ.exd b z y
    · obtain ⟨_, _, y2, _⟩ := SZ.own i xs z1
      exact y2 (by rw [z2]; exact y)
  · obtain ⟨v, h1, h2⟩ := S.sl i s h n
    exact ⟨v, h1, h2.mv m da⟩
  · obtain ⟨h1, h2, h3, vs, h4, h5⟩ := S.own i xs h
    exact ⟨h1, h2, dkn h4 h3, vs, go h4 rfl h3, h5.mv m⟩
section
variable {X : Cx} {pins : List (Addr × Obj)} {σ : L2.St} {H : Hp} {s : Shared}
/-- x(), where the def that got the lambda was entered at s, in the maker's frames -/
theorem lam_act {CXg : CXT} {Eg : XK} {Ng : List Str} {qg : Str} {sg : Scope} {ga' f c' : Addr} {cdg pm ctv : Value} {params : Arguments} {body : Expr} {scope : Scope} {k : Nat} {a : Str} {pn : List (Addr × Obj)} {xe : Value → Shared → Prop} {W : WX} {tb : XK → TE} {p1 p2 : Pos}
    (I : Inv X pins σ H s) (L : LamX.LamS X.env.scope scope) (hob : s.heap.get? f = some (PySem.W.kla_obj "<lambda>" (X.env.qual ++ "<lambda>") params body scope (cloFrom X.env.cells scope.names []) pm c' ctv)) (nH : H f = none) (nF : f ∉ frs X.stack)
    (hbi : bindArgs (PySem.W.kla_fn "<lambda>" (X.env.qual ++ "<lambda>") params body scope (cloFrom X.env.cells scope.names []) pm (.ref c') ctv) ⟨[], []⟩ = pure [])
    (tk : Takes ((cxOf CXg X.prog X.w X.K X.mg X.base Ng qg sg ga' cdg X.A X.stack s H Eg).tr pn xe) W) (rq : Rq (k + 1) (X.A.deeper (envOfC qg sg s.heap.objs.size ga' cdg)))
    (hb : ∀ (E : XK) (B : Around) (fr : List Env) (r : Shared) (Hr : Hp), Rq k (B.deeper (LamX.lamEnv X scope r.heap.objs.size f c')) → PE (LamX.lamCx X B fr r Hr E scope f c') body (tb E))
    (hN : Ng[0]? = some a) (hv : Vis sg a) (h1 : (a == ("__debug__" : Str)) = false) (h2 : (a == ("__classdict__" : Str)) = false) :
    PE ((cxOf CXg X.prog X.w X.K X.mg X.base Ng qg sg ga' cdg X.A X.stack s H Eg).tr pn xe) (.Call (.Name a p1) [] [] p2)
      (fun σZ HZ Q => σZ[0]? = some (some (.ref f)) ∧ HZ c' = some (LamX.CodeO c' (X.env.qual ++ "<lambda>")) ∧ tb (WE W σZ) σ HZ Q) := by
  refine ⟨fun pz sz σZ HZ Q IZ ⟨y1, y2, y3⟩ => wpAny_Call_Name_kw (thn ((pe_var (pos := p1) (i := 0) hN hv h1 h2).run pz sz σZ HZ (fun v HY => v = .ref f ∧ HY = HZ) IZ ⟨.ref f, y1, rfl, rfl⟩) fun u r ⟨v, HY, IY, rv, ev, eH⟩ => ?_)⟩
  subst ev
  subst eH
  obtain rfl : u = Value.ref f := rv
  have ob : r.heap.get? f = some (PySem.W.kla_obj "<lambda>" (X.env.qual ++ "<lambda>") params body scope (cloFrom X.env.cells scope.names []) pm c' ctv) := IY.base.keep f _ hob nH nF (fun z => nomatch (show f ∈ ([] : List Addr) from z))
  refine PySem.W.callWith_F0 ⟨_, _, _, _, ob⟩ ?_
  obtain ⟨⟨oc, vs, tq, z1, z2, z3⟩, _, _⟩ := IY.hok c' _ y2
  have un : Un (frs X.stack) [] H HY s.heap r.heap := IY.base
  have run : codeAny (model X.prog X.w) (X.A.deeper (envOfC qg sg s.heap.objs.size ga' cdg)) (.call (.ref f) ⟨[], []⟩) (CR (L2.CX X.prog X.w) (envOfC qg sg s.heap.objs.size ga' cdg :: X.stack) X.prog X.w HY r Q (WE W σZ)) r := by
    refine PySem.W.kla_callFunE rq.r.depth ob rfl L.co L.gen rfl ⟨c', oc, vs, tq, rfl, z1, z2, z3⟩ ?_
    rw [hbi]
    refine wpAny_pure (wpAny_newFunctionEnv (fun y hy => (L.own y hy).2) (fun y hy => absurd hy List.not_mem_nil) (fun hh hns hsb => ⟨IY.nolimit.fresh _ hsb, ?_⟩) L.kind)
    show codeAny _ _ (.expr body (LamX.lamEnv X scope r.heap.objs.size f c')) _ _
    have J := LamX.lam_start2 (f := f) (c' := c') (E := WE W σZ) (tk := r.toks + ([] : List (Str × Value)).length) I L IY.env0 rq.r.hd un hns fun b o e => hsb.extBut b o (Nat.ne_of_lt (Heap.lt_size e)) (Heap.get?_push_of_some _ e)
    refine PySem.W.kla_codeExpr (wpAny_mono ((hb (WE W σZ) _ _ r HY (rq.deep _)).run [] _ _ HY Q J y3) (fun v s' ⟨w', H', J', rv', q⟩ => ?_) fun _ _ q => q)
    exact ⟨w', H', J'.os, J'.bare, J'.base, J'.hok, rv', q⟩
  refine wpAny_call (codeAny_mono run fun r2 s' z => ?_)
  have b := back_from IY (passAt tk σZ) z
  rcases r2 with e | fl
  · exact b
  · rcases fl with _ | _ | _ | u
    · exact b.elim
    · exact b.elim
    · exact b.elim
    · exact b
/-- a def called at one state: its body's proof at that state alone -/
theorem run_at {P : Program} {w : World} {K : PySem.W.Frag} {mg : Str → Option Value} {base : Heap} {x qual : Str} {params : Arguments} {body : List Stmt} {scope : Scope} {f : Addr} {fd : FuncData} {N ps : List Str} {n : Nat} {B : Around} {fr : List Env} {s : Shared} {H : Hp} {ar : Args} {us : List Value} {vs : List V} {Q : VK} {E : XK}
    (F : FunD K x qual params body scope [] [] f fd) (S : FnScope N ps scope) (rq : Rq (n + 1) B) (e0 : Env0 P w K mg base B fr s H) (bt : BindsTo s fd ar (ps.zip us)) (rv : Vals vs us) (hl : vs.length = ps.length)
    (hb : ∀ cd : Value, Rq n (B.deeper (envOfC qual scope s.heap.objs.size f cd)) → ∃ t, PSs (cxOf (L2.CX P w) P w K mg base N qual scope f cd B fr s H E) body t ∧ t { nx := fun _ H' => Q .non H', rt := Q } (L2.start N vs) H) :
    codeAny (model P w) B (.call (.ref f) ar) (CR (L2.CX P w) fr P w H s Q E) s := by
  obtain ⟨vs', hvs⟩ : ∃ z, z = vs := ⟨vs, rfl⟩
  obtain ⟨oc, od, dV, kV, doc, pm, an, cd, ct, osl, rfl, lk, hc, _, _⟩ := F.ex
  have up : ∀ b o, base.get? b = some o → s.heap.get? b = some o := fun b o e => (e0.bs b o e).1
  have KX : K.In s.heap := e0.mod.kin.keeps up
  refine codeAny_call_function rq.r.depth (KX _ _ lk) rfl S.co S.gen rfl (PySem.W.codeRec_of KX hc) (bt _ _ _ _ (wpAny_newFunctionEnv_cells S.kind (fun y hy => (S.par y.1 (List.of_mem_zip (show (y.1, y.2) ∈ ps.zip us from hy)).1).imp (fun q => q) fun q => ⟨q, PySem.W.cellsFrom_some _ _ _ (.inl q)⟩) fun env he s1 y => ?_))
  subst he
  refine ⟨(e0.mod.nolimit.keeps up).keeps y.toInCall.keep, codeAny_func ?_⟩
  obtain ⟨t, ht, hq⟩ := hb cd (rq.deep _)
  refine wpAny_mono (ht.run [] s1 (L2.start N vs) H _ (inv_start S rq.r.hd e0 hl rv y) hq) (fun fl s2 h2 => ?_) fun _ _ h2 => h2
  cases fl with
  | next => obtain ⟨σ2, H2, J, q⟩ := h2; exact ⟨.non, H2, J.os, J.bare, J.base, J.hok, rfl, q⟩
  | brk => obtain ⟨_, _, _, q⟩ := h2; exact q.elim
  | cont => obtain ⟨_, _, _, q⟩ := h2; exact q.elim
  | ret u => obtain ⟨v, σ2, H2, J, rv2, q⟩ := h2; exact ⟨v, H2, J.os, J.bare, J.base, J.hok, rv2, q⟩
end
/-- the lambda is made; what was tracked is tracked still -/
theorem lam_new {X : Cx} {pins : List (Addr × Obj)} {σ : L2.St} {H : Hp} {s : Shared} {T : List (Addr × Str)} {c P : Addr} {params : Arguments} {body : Expr} {scope : Scope} {pos : Pos} {E Q : Value → Shared → Prop}
    (I : Inv X pins σ H s) (B : LamX.TabB X.base X.mg c P) (hc : X.env.code = .ref c) (mT : (P, X.env.qual ++ "<lambda>") ∈ T) (uT : ∀ p ∈ T, p.1 = P → p.2 = X.env.qual ++ "<lambda>") (tT : LamX.Tabs T H) (dn : defaultsOf params X.env = ([], [])) (fr : ∀ y ∈ scope.names, y.2 = .free → ∃ c, X.env.cells.lookup y.1 = some c)
    (go : ∀ (f c' : Addr) (pm ctv : Value) (H1 : Hp) (r : Shared), Inv X pins σ H1 r → LamX.ExtN H H1 → (∀ b, H b ≠ none → H1 b ≠ none) → LamX.Tabs T H1 →
      r.heap.get? f = some (PySem.W.kla_obj "<lambda>" (X.env.qual ++ "<lambda>") params body scope (cloFrom X.env.cells scope.names []) pm c' ctv) → H1 f = none → f ∉ frs X.stack → H1 c' = some (LamX.CodeO c' (X.env.qual ++ "<lambda>")) → Q (.ref f) r) :
    wpAny (model X.prog X.w) X.A (eval (.Lambda params body scope pos) X.env) Q E s := by
  obtain ⟨ps, hP, tr, am⟩ := tT _ mT
  have oP := I.hok P _ hP
  have lost : ∀ z, s.heap.objs.size ≤ z → z ∉ frs X.stack := fun z q m => (List.mem_cons.mp (I.stkSub _ m)).elim (fun e => Nat.lt_irrefl _ (Nat.lt_of_lt_of_le (e ▸ I.lt : z < s.heap.objs.size) q)) fun e => I.nofs q e
  refine PySem.W.kla_eval dn ?_
  rcases hcv : codeAmong pos ps.toList with _ | cv
  · refine PySem.W.kla_makeFunction (mg := X.mg) (c := c) (P := P) (ps := ps) (closure_ok fr) I.ok.glob (I.mod.glob.keeps I.bk) hc (B.code.keeps I.bk) oP tr hcv B.gP (B.bm.keeps I.bk) fun d ctv h' tk hx ge lt rec tb => ?_
    obtain ⟨d2, oc, vs, tq, e2, z1, z2, z3⟩ := rec
    cases e2
    have nd : H d = none := I.hok.fresh ge
    have le : s.heap.objs.size ≤ h'.objs.size := Nat.le_trans ge (Nat.le_of_lt lt)
    have nP : P ≠ d := ne_of_none hP nd
    have J := LamX.inv_table (t' := tk) (more := #[rawInt pos.line, rawInt pos.col, .ref d]) (q := X.env.qual ++ "<lambda>") (h' := h'.push (PySem.W.kla_obj "<lambda>" (X.env.qual ++ "<lambda>") params body scope (cloFrom X.env.cells scope.names []) ((X.mg "__name__").getD .none) d ctv)) I hP
      (fun b o n e => Heap.get?_push_of_some _ (hx b o n e)) (Heap.get?_push_of_some _ tb) ge ⟨oc, vs, tq, Heap.get?_push_of_some _ z1, z2, z3⟩
    have up : LamX.ExtN H (upd (upd H P (.tbl (ps ++ #[rawInt pos.line, rawInt pos.col, .ref d]))) d (LamX.CodeO d (X.env.qual ++ "<lambda>"))) := fun b o e n => by
      have n1 : b ≠ d := ne_of_none e nd
      have n2 : b ≠ P := fun z => by
        rw [z, hP] at e
        exact n ps (Option.some.inj e).symm
      rw [upd_ne n1, upd_ne n2, e]
    have ls : (ps ++ #[rawInt pos.line, rawInt pos.col, .ref d]).toList = ps.toList ++ [rawInt pos.line, rawInt pos.col, .ref d] := by simp
    refine go h'.objs.size d _ ctv _ _ J up (fun b hb => ?_) (fun p hp => ?_) (Heap.get?_push_size _ rfl) ?_ (lost _ le) upd_same
    · by_cases n1 : b = d
      · rw [n1, upd_same]; exact fun z => by cases z
      · rw [upd_ne n1]
        by_cases n2 : b = P
        · rw [n2, upd_same]; exact fun z => by cases z
        · rw [upd_ne n2]; exact hb
    · by_cases e : p.1 = P
      · rw [uT p hp e, e]
        refine ⟨_, by rw [upd_ne nP, upd_same], by rw [ls]; exact PySem.TriplesOk_snoc _ _ _ _ tr, fun p' cv q => ?_⟩
        rw [ls] at q
        exact (LamX.among_app _ tr q).elim (fun z => let ⟨c0, y1, y2⟩ := am p' cv z; ⟨c0, y1, up _ _ y2 LamX.codeO_ne⟩) fun z => ⟨d, z, upd_same⟩
      · obtain ⟨ps2, a1, a2, a3⟩ := tT p hp
        exact ⟨ps2, by rw [upd_ne (ne_of_none a1 nd), upd_ne e]; exact a1, a2, fun p' cv q => let ⟨c0, y1, y2⟩ := a3 p' cv q; ⟨c0, y1, up _ _ y2 LamX.codeO_ne⟩⟩
    · rw [upd_ne (Nat.ne_of_gt lt), upd_ne (Nat.ne_of_gt (Nat.lt_of_lt_of_le (Heap.lt_size oP) le))]
      exact I.hok.fresh le
  · obtain ⟨d, rfl, hd⟩ := am pos cv hcv
    refine PySem.W.kla_makeFunctionHit (mg := X.mg) (c := c) (P := P) (ps := ps) (closure_ok fr) I.ok.glob (I.mod.glob.keeps I.bk) hc (B.code.keeps I.bk) oP tr hcv (B.bm.keeps I.bk) fun ctv h' tk hx le => ?_
    exact go h'.objs.size d _ ctv H _ (I.kept fun b o e => Heap.get?_push_of_some _ (hx b o e)) (LamX.ExtN.refl H) (fun _ q => q) tT (Heap.get?_push_size _ rfl) (I.hok.fresh le) (lost _ le) hd
theorem phi_lam {G1 G2 : Gx} {j : Nat} {ie : IE} {t : Tau} {k : Ds} (h : ∀ ss kk, G1.phi j ss kk = run G2 ⟨1, 1, [.lamb [] ie]⟩ ss kk) : G1.phi j [.clo j t] k = ev G2 t ie k := by
  rw [h]
  show fin (((ev G2 t ie k).thn [some (.clo j t)] fun s k => .ok (.rt s) [some (.clo j t)] k).bind fun t k => execs G2 [] t k) = _
  cases ev G2 t ie k <;> rfl
/-- what a def's names mean while it holds a lambda -/
abbrev Ev.lent (V : Ev) (lm : Nat × Tau × Addr × Addr × Str) (hh : Hp × Da × (Addr → Prop)) (G : Gx) : Ev := ⟨V.K, { V.cl with lam := some lm, h0 := some hh }, V.fld, G⟩
section
variable {V0 : Ev} {X : Cx} {pins : List (Addr × Obj)} {σ : L2.St} {H : Hp} {s : Shared} {g : Gh} {t : Tau} {k0 : Ds}
theorem se_callv {CXg : CXT} {Eg : XK} {Ng : List Str} {qg : Str} {sg : Scope} {ga' f c' : Addr} {cdg pm ctv : Value} {params : Arguments} {body : Expr} {scope : Scope} {k : Nat} {a : Str} {pn : List (Addr × Obj)} {xe : Value → Shared → Prop} {W : WX} {p1 p2 : Pos} {G1 G2 : Gx} {ie : IE} {j : Nat}
    (I : Inv X pins σ H s) (L : LamX.LamS X.env.scope scope) (hob : s.heap.get? f = some (PySem.W.kla_obj "<lambda>" (X.env.qual ++ "<lambda>") params body scope (cloFrom X.env.cells scope.names []) pm c' ctv)) (nH : H f = none) (nF : f ∉ frs X.stack) (hco : H c' = some (LamX.CodeO c' (X.env.qual ++ "<lambda>")))
    (hbi : bindArgs (PySem.W.kla_fn "<lambda>" (X.env.qual ++ "<lambda>") params body scope (cloFrom X.env.cells scope.names []) pm (.ref c') ctv) ⟨[], []⟩ = pure [])
    (S : Sim V0.K V0.cl g H σ t k0) (hno : V0.cl.h0 = none) (hlm : V0.cl.lam = none)
    (tk : Takes ((cxOf CXg X.prog X.w X.K X.mg X.base Ng qg sg ga' cdg X.A X.stack s H Eg).tr pn xe) W) (rq : Rq (k + 1) (X.A.deeper (envOfC qg sg s.heap.objs.size ga' cdg))) (hj : ∀ ss kk, G1.phi j ss kk = run G2 ⟨1, 1, [.lamb [] ie]⟩ ss kk)
    (hb : ∀ (E : XK) (B : Around) (fr : List Env) (r : Shared) (Hr : Hp), Rq k (B.deeper (LamX.lamEnv X scope r.heap.objs.size f c')) → SE ⟨V0.K, V0.cl, V0.fld, G2⟩ (fun c x _ H => E c x H) (LamX.lamCx X B fr r Hr E scope f c') body ie)
    (hN : Ng[0]? = some a) (hv : Vis sg a) (h1 : (a == ("__debug__" : Str)) = false) (h2 : (a == ("__classdict__" : Str)) = false) :
    SE (V0.lent (j, t, f, c', X.env.qual ++ "<lambda>") (H, g.dk, g.keep t) G1) W ((cxOf CXg X.prog X.w X.K X.mg X.base Ng qg sg ga' cdg X.A X.stack s H Eg).tr pn xe) (.Call (.Name a p1) [] [] p2) (.callv 0 []) := by
  refine SE.mk' (peImp (lam_act I L hob nH nF hbi tk rq (fun E B fr r Hr q => (hb E B fr r Hr q).pe) hN hv h1 h2) fun σZ HZ Q => ?_) (fun i q => by cases q)
  rintro ⟨gZ, tZ, kZ, SZ, p⟩
  have p0 : PostR (V0.lent (j, t, f, c', X.env.qual ++ "<lambda>") (H, g.dk, g.keep t) G1) W gZ σZ tZ HZ (match varT tZ 0 with
    | some (.clo j env) => G1.phi j [.clo j env] kZ
    | _ => .no) (relS' (V0.lent (j, t, f, c', X.env.qual ++ "<lambda>") (H, g.dk, g.keep t) G1) tZ) Q := by
    have p' : PostR (V0.lent (j, t, f, c', X.env.qual ++ "<lambda>") (H, g.dk, g.keep t) G1) W gZ σZ tZ HZ (ev G1 tZ (.callv 0 []) kZ) (relS' (V0.lent (j, t, f, c', X.env.qual ++ "<lambda>") (H, g.dk, g.keep t) G1) tZ) Q := p
    have e : ev G1 tZ (.callv 0 []) kZ = (match varT tZ 0 with
      | some (.clo j env) => G1.phi j [.clo j env] kZ
      | _ => .no) := by
      simp only [ev, evs, yQ]
      all_goals
        cases varT tZ 0 with
        | none => rfl
        | some s0 => cases s0 <;> rfl
    rw [e] at p'
    exact p'
  cases hv0 : varT tZ 0 with
  | none => rw [hv0] at p0; exact p0.elim
  | some s0 =>
    rw [hv0] at p0
    cases s0 with
    | clo j' env =>
      have hz : tZ[0]? = some (some (.clo j' env)) := by
        cases tZ with
        | nil => cases hv0
        | cons o r => exact congrArg some hv0
      obtain ⟨v, hs, f', c2, q', e1, e2⟩ := SZ.sl 0 _ hz (fun xs z => by cases z)
      cases e1
      subst e2
      have p1 : PostR (V0.lent (j, t, f, c', X.env.qual ++ "<lambda>") (H, g.dk, g.keep t) G1) W gZ σZ tZ HZ (G1.phi j [.clo j t] kZ) (relS' (V0.lent (j, t, f, c', X.env.qual ++ "<lambda>") (H, g.dk, g.keep t) G1) tZ) Q := p0
      rw [phi_lam hj] at p1
      obtain ⟨w1, w2, w3⟩ := SZ.was _ _ _ rfl
      refine ⟨hs, SZ.fr c' _ (by rw [w1]; exact hco) rfl fun z => ?_, ⟨g.H0, fun b => g.Ex0 b ∨ gZ.keep tZ b, g.ad, gZ.dk⟩, t, kZ, S.into (V1 := V0.lent (j, t, f, c', X.env.qual ++ "<lambda>") (H, g.dk, g.keep t) G1) rfl rfl hno SZ, ?_⟩
      · rcases w3 with y | ⟨_, y⟩
        · have := S.dkr.plain (by rw [← y]; exact z) hco
          cases this
        · rw [y c' z] at hco; cases hco
      · have lessX : ∀ (d' : Da) (b : Addr), (gZ.at d').Ex tZ b → ((⟨g.H0, fun b => g.Ex0 b ∨ gZ.keep tZ b, g.ad, d'⟩ : Gh).Ex t) b := fun d' b z => by
          rcases z with z | z | z
          · exact .inl (.inr (.inl z))
          · exact .inr (.inl z)
          · exact .inl (.inr (.inr z))
        have p2 : PostR (V0.lent (j, t, f, c', X.env.qual ++ "<lambda>") (H, g.dk, g.keep t) G1) W gZ σZ tZ HZ (ev G2 t ie kZ) (relS' (V0.lent (j, t, f, c', X.env.qual ++ "<lambda>") (H, g.dk, g.keep t) G1) tZ) Q := p1
        show PostR ⟨V0.K, V0.cl, V0.fld, G2⟩ (fun c x _ H => WE W σZ c x H) _ σ t HZ (ev G2 t ie kZ) (relS' ⟨V0.K, V0.cl, V0.fld, G2⟩ t) Q
        revert p2
        cases ev G2 t ie kZ with
        | ok s' k' => exact fun p v H' d' e S' r => p v H' d' e (SZ.step e S'.dkr S'.tab) ((RSl.lent hlm r).same (lessX d'))
        | ex c x k' => exact fun p d H' d' v e S' r hx => p d H' d' v e (SZ.step e S'.dkr S'.tab) (r.same (lessX d')) (hx.same (lessX d'))
        | no => exact fun p => p
    | _ => exact p0.elim
/-- g(lambda: e) -/
theorem se_lamc {W : WX} {n : Nat} {defs : Nat → Option Df} {gl : Str → Option D} {fuel : Nat} {sub : Str → Str → Bool} {dG : He.DefD} {NG : List Str} {a : Str} {iG : List IS} {ie : IE} {fG j : Nat} {c P fa : Addr} {fd : FuncData} {params : Arguments} {body : Expr} {scope : Scope} {p lpos pos : Pos}
    (C : Cq V0 W X (n + 1)) (hV : V0.G = ⟨phiN defs gl fuel sub n, gl, fuel, sub⟩) (hG : defs fG = some ⟨1, NG.length, iG⟩) (hj : defs j = some ⟨1, 1, [.lamb [] ie]⟩) (hno : V0.cl.h0 = none) (hlm : V0.cl.lam = none)
    (hg : Gl X dG.name) (hm : X.mg dG.name = some (.ref fa)) (hD : FunD X.K dG.name dG.qual dG.params dG.body dG.scope [] [] fa fd) (SG : FnScope NG [a] dG.scope)
    (hbi : ∀ (kV doc pm : Value) (an : Option Addr) (cdv ct : Value) (us : List Value), us.length = 1 → bindArgs (PySem.W.fnOf dG.name dG.qual dG.params dG.body dG.scope .none kV doc pm an cdv ct) ⟨us, []⟩ = pure ([a].zip us))
    (hGb : ∀ (m : Nat) (lm : Nat × Tau × Addr × Addr × Str) (hh : Hp × Da × (Addr → Prop)) (cd : Value) (s : Shared) (H : Hp) (E : XK), n = m + 1 →
      Cq (V0.lent lm hh ⟨phiN defs gl fuel sub m, gl, fuel, sub⟩) (fun c x _ H => E c x H) (cxOf (L2.CX X.prog X.w) X.prog X.w X.K X.mg X.base NG dG.qual dG.scope fa cd X.A X.stack s H E) (m + 1) →
      PassesOwn (model X.prog X.w) (cxOf (L2.CX X.prog X.w) X.prog X.w X.K X.mg X.base NG dG.qual dG.scope fa cd X.A X.stack s H E).A (cxOf (L2.CX X.prog X.w) X.prog X.w X.K X.mg X.base NG dG.qual dG.scope fa cd X.A X.stack s H E).env (cxOf (L2.CX X.prog X.w) X.prog X.w X.K X.mg X.base NG dG.qual dG.scope fa cd X.A X.stack s H E).xe →
      (∀ (W : WX) (pn : List (Addr × Obj)) (xe : Value → Shared → Prop) (p1 p2 : Pos), Takes ((cxOf (L2.CX X.prog X.w) X.prog X.w X.K X.mg X.base NG dG.qual dG.scope fa cd X.A X.stack s H E).tr pn xe) W →
        SE (V0.lent lm hh ⟨phiN defs gl fuel sub m, gl, fuel, sub⟩) W ((cxOf (L2.CX X.prog X.w) X.prog X.w X.K X.mg X.base NG dG.qual dG.scope fa cd X.A X.stack s H E).tr pn xe) (.Call (.Name a p1) [] [] p2) (.callv 0 [])) →
      PSs (cxOf (L2.CX X.prog X.w) X.prog X.w X.K X.mg X.base NG dG.qual dG.scope fa cd X.A X.stack s H E) dG.body (tSs (V0.lent lm hh ⟨phiN defs gl fuel sub m, gl, fuel, sub⟩) (fun c x _ H => E c x H) iG))
    (B : LamX.TabB X.base X.mg c P) (hc : X.env.code = .ref c) (mT : (P, X.env.qual ++ "<lambda>") ∈ V0.cl.T) (uT : ∀ p ∈ V0.cl.T, p.1 = P → p.2 = X.env.qual ++ "<lambda>")
    (L : LamX.LamS X.env.scope scope) (dn : defaultsOf params X.env = ([], []))
    (hbl : ∀ (q : Str) (cl : List (Str × Addr)) (pm cv ctv : Value), bindArgs (PySem.W.kla_fn "<lambda>" q params body scope cl pm cv ctv) ⟨[], []⟩ = pure [])
    (hb : ∀ (m : Nat) (E : XK) (A : Around) (fr : List Env) (r : Shared) (Hr : Hp) (f c' : Addr), n = m + 2 → Cq ⟨V0.K, V0.cl, V0.fld, ⟨phiN defs gl fuel sub m, gl, fuel, sub⟩⟩ (fun c x _ H => E c x H) (LamX.lamCx X A fr r Hr E scope f c') (m + 1) →
      SE ⟨V0.K, V0.cl, V0.fld, ⟨phiN defs gl fuel sub m, gl, fuel, sub⟩⟩ (fun c x _ H => E c x H) (LamX.lamCx X A fr r Hr E scope f c') body ie)
    (hN : NG[0]? = some a) (hv : Vis dG.scope a) (h1 : (a == ("__debug__" : Str)) = false := by decide) (h2 : (a == ("__classdict__" : Str)) = false := by decide) (hdb : (dG.name == ("__debug__" : Str)) = false := by decide) :
    SE V0 W X (.Call (.Name dG.name p) [.Lambda params body scope lpos] [] pos) (.lamc fG j) := by
  refine SE.mk' ⟨fun pins s σ H Q I h => ?_⟩ (fun i q => by cases q)
  obtain ⟨g, t, k, S, q⟩ := h
  have q0 : PostR V0 W g σ t H ((data (noEx (V0.G.phi fG [.clo j t] k))).bind fun x k => .ok (.d x) k) (relS' V0 t) Q := q
  rw [hV] at q0
  cases n with
  | zero => exact q0.elim
  | succ m =>
    have e : phiN defs gl fuel sub (m + 1) fG [.clo j t] k = run ⟨phiN defs gl fuel sub m, gl, fuel, sub⟩ ⟨1, NG.length, iG⟩ [.clo j t] k := by
      show (match defs fG with
        | some d => run ⟨phiN defs gl fuel sub m, gl, fuel, sub⟩ d [.clo j t] k
        | none => .no) = _
      rw [hG]
    have q1 : PostR V0 W g σ t H ((data (noEx (phiN defs gl fuel sub (m + 1) fG [.clo j t] k))).bind fun x k => .ok (.d x) k) (relS' V0 t) Q := q0
    rw [e] at q1
    refine wpAny_Call_Name_kw (ld_glob I hg hm ?_ hdb)
    refine PySem.W.callWith_K (h₀ := X.base) I.ok.mod.kin hD.kp ?_ (by rfl) (by rfl)
    show wpAny _ _ (spliced ((false, eval (.Lambda params body scope lpos) X.env) :: backTo pos (starEach [] X.env))) _ _ s
    refine Calls.spliced_cons (lam_new I B hc mT uT S.tab dn (L.has I.ok) fun f c' pm ctv H1 r I1 eN ne T1 ob nf nF co => ?_)
    refine Calls.spliced_nil ⟨I1.kIn, ?_⟩
    have ex1 : Ext g.dk g.dk H H1 := ⟨fun b o h y _ => eN b o h fun ps z => (by rw [z] at y; cases y), .inl rfl, ne⟩
    have dk1 : DkR H1 g.dk k := by
      have d0 := S.dkr
      revert d0
      cases g.dk with
      | none =>
        cases k with
        | none => exact fun d => d
        | some dq => exact fun d => d
      | some w =>
        obtain ⟨w1, w2⟩ := w
        cases k with
        | none => exact fun d => d
        | some dq => exact fun ⟨y1, y2, y3, y4⟩ => ⟨y1, eN _ _ y2 (fun ps z => by cases z), eN _ _ y3 (fun ps z => by cases z), y4⟩
    have S1 : Sim V0.K V0.cl g H1 σ t k := S.step ex1 dk1 T1
    have rc : codeAny (model X.prog X.w) X.A (.call (.ref fa) ⟨[.ref f], []⟩) (CR (L2.CX X.prog X.w) X.stack X.prog X.w H1 r Q (fun _ _ _ => False)) r := by
      refine run_at (N := NG) (ps := [a]) (us := [.ref f]) (vs := [.ref f]) (n := m + 1) hD SG C.rq I1.env0 (hD.bindsA (ps := [a]) hbi r [.ref f] rfl) (.cons rfl .nil) rfl fun cd rq => ?_
      have CZ : Cq (V0.lent (j, t, f, c', X.env.qual ++ "<lambda>") (H1, g.dk, g.keep t) ⟨phiN defs gl fuel sub m, gl, fuel, sub⟩) (fun c x _ H => (fun _ _ _ => False : XK) c x H) (cxOf (L2.CX X.prog X.w) X.prog X.w X.K X.mg X.base NG dG.qual dG.scope fa cd X.A X.stack r H1 (fun _ _ _ => False)) (m + 1) :=
        ⟨C.K, rfl, rq, C.sys, SG.nd, takes_of rfl rfl rfl rfl, C.cp, C.cw⟩
      refine ⟨_, hGb m _ _ cd r H1 (fun _ _ _ => False) rfl CZ (passes_of rfl) (fun W' pn xe p1 p2 tk => ?_), ?_⟩
      · cases m with
        | zero =>
          refine SE.mk' ⟨fun _ _ σZ HZ QZ _ hz => ?_⟩ (fun i q => by cases q)
          obtain ⟨gZ, tZ, kZ, SZ, pz⟩ := hz
          have pz2 : PostR (V0.lent (j, t, f, c', X.env.qual ++ "<lambda>") (H1, g.dk, g.keep t) ⟨phiN defs gl fuel sub 0, gl, fuel, sub⟩) W' gZ σZ tZ HZ (ev ⟨phiN defs gl fuel sub 0, gl, fuel, sub⟩ tZ (.callv 0 []) kZ) (relS' (V0.lent (j, t, f, c', X.env.qual ++ "<lambda>") (H1, g.dk, g.keep t) ⟨phiN defs gl fuel sub 0, gl, fuel, sub⟩) tZ) QZ := pz
          have e0 : ev ⟨phiN defs gl fuel sub 0, gl, fuel, sub⟩ tZ (.callv 0 []) kZ = .no := by
            simp only [ev, evs, yQ, phiN]
            all_goals
              cases varT tZ 0 with
              | none => rfl
              | some s0 => cases s0 <;> rfl
          rw [e0] at pz2
          exact pz2.elim
        | succ m =>
          refine se_callv (ie := ie) (k := m + 1) I1 L ob nf nF co (hbl _ _ _ _ _) S1 hno hlm tk rq (G2 := ⟨phiN defs gl fuel sub m, gl, fuel, sub⟩) (fun ss kk => ?_) (fun E A fr r' Hr rq' => ?_) hN hv h1 h2
          · show (match defs j with
              | some d => run ⟨phiN defs gl fuel sub m, gl, fuel, sub⟩ d ss kk
              | none => .no) = _
            rw [hj]
          · exact hb m E A fr r' Hr f c' rfl ⟨C.K, rfl, rq', C.sys, C.nd, takes_of rfl rfl rfl rfl, C.cp, C.cw⟩
      · have S0 : Sim V0.K { V0.cl with lam := some (j, t, f, c', X.env.qual ++ "<lambda>"), h0 := some (H1, g.dk, g.keep t) } ⟨H1, g.keep t, fun _ => 0, g.dk⟩ H1 (L2.start NG [.ref f]) ([some (.clo j t)] ++ List.replicate (NG.length - 1) none) k := by
          have noown : ∀ (i : Nat) (xs : List D), ([some (Sl.clo j t)] ++ List.replicate (NG.length - 1) none)[i]? = some (some (.own xs)) → False := fun i xs h => by
            have y := init_get (ss := [Sl.clo j t]) (m := NG.length - 1) h
            cases i with
            | zero => cases y
            | succ i => cases y
          have n1 : 1 ≤ NG.length := Nat.lt_of_not_le fun z => by
            rw [List.getElem?_eq_none z] at hN; cases hN
          refine ⟨fun b o h _ _ => h, fun b h => h, T1, fun h d E z => ?_, dk1, fun b z => ?_, fun b z => ?_, ?_, fun i s' h _ => ?_, fun i xs h => (noown i xs h).elim, fun i _ xs _ _ h => (noown i xs h).elim⟩
          · cases z
            exact ⟨rfl, fun b z => .inl z, .inl rfl⟩
          · exact S1.exs (z.elim .inl fun y => .inr (.inr y))
          · rcases z with z | ⟨i, xs, z1, z2⟩
            · exact S1.exd b z
            · obtain ⟨_, _, y, _⟩ := S1.own i xs z1
              rw [← z2]; exact y
          · rw [start_len (by simpa using n1), List.length_append, List.length_replicate]
            simp
            omega
          · have y := init_get (ss := [Sl.clo j t]) (m := NG.length - 1) h
            cases i with
            | zero => cases y; exact ⟨.ref f, start_get rfl, f, c', _, rfl, rfl⟩
            | succ i => cases y
        refine ⟨⟨H1, g.keep t, fun _ => 0, g.dk⟩, [some (.clo j t)] ++ List.replicate (NG.length - 1) none, k, S0.ex, S0, ?_⟩
        have q2 : PostR V0 W g σ t H ((data (noEx (fin (execs ⟨phiN defs gl fuel sub m, gl, fuel, sub⟩ iG ([some (.clo j t)] ++ List.replicate (NG.length - 1) none) k)))).bind fun x k => .ok (.d x) k) (relS' V0 t) Q := q1
        show PostS (V0.lent (j, t, f, c', X.env.qual ++ "<lambda>") (H1, g.dk, g.keep t) ⟨phiN defs gl fuel sub m, gl, fuel, sub⟩) _ _ _ H1 (execs ⟨phiN defs gl fuel sub m, gl, fuel, sub⟩ iG ([some (.clo j t)] ++ List.replicate (NG.length - 1) none) k) _
        have eo : ∀ {g' : Gh} {t' : Tau} {H' : Hp} {σ' : L2.St} {k' : Ds}, Stp ⟨H1, g.keep t, fun _ => 0, g.dk⟩ ([some (.clo j t)] ++ List.replicate (NG.length - 1) none) H1 g' t' H' → Sim V0.K { V0.cl with lam := some (j, t, f, c', X.env.qual ++ "<lambda>"), h0 := some (H1, g.dk, g.keep t) } g' H' σ' t' k' → Ext g.dk g'.dk H1 H' :=
          fun {g' t' H' σ' k'} st S' => ext_of (V0 := V0.lent (j, t, f, c', X.env.qual ++ "<lambda>") (H1, g.dk, g.keep t) ⟨phiN defs gl fuel sub m, gl, fuel, sub⟩) (g := ⟨H1, g.keep t, fun _ => 0, g.dk⟩) rfl st S'
        revert q2
        cases execs ⟨phiN defs gl fuel sub m, gl, fuel, sub⟩ iG ([some (.clo j t)] ++ List.replicate (NG.length - 1) none) k with
        | no => exact fun q => q.elim
        | ex c x t' k' => exact fun q => q.elim
        | ok fl t' k' =>
          cases fl with
          | nx => exact fun q g' σ' H' st S' => q .non H' g'.dk (ex1.trans (eo st S')) (S1.step (eo st S') S'.dkr S'.tab) .non
          | bk => exact fun q => q.elim
          | ct => exact fun q => q.elim
          | rt s1 =>
            cases s1 with
            | d x => exact fun q g' σ' H' st S' v rv => q v H' g'.dk (ex1.trans (eo st S')) (S1.step (eo st S') S'.dkr S'.tab) (Rp.same rv fun b z => by
                rcases (g.to_ux t g'.dk b).mp z with z | z
                · exact .inl (by rw [st.e0]; exact z)
                · exact .inr (.inl z))
            | _ => exact fun q => q.elim
    refine wpAny_call (codeAny_mono rc fun r2 s' z => ?_)
    rcases r2 with e | fl
    · obtain ⟨_, _, _, _, _, _, _, _, _, _, _, _, y⟩ := z
      exact y.elim
    · rcases fl with _ | _ | _ | u
      · exact z.elim
      · exact z.elim
      · exact z.elim
      · exact I1.after z
end
end Q

/-! the head: tables of code objects, own exceptions -/
namespace Q
open PySem PySem.Spec PyProof.Rows L2
/-! ### the makers of lambdas: their code object, its table -/
def cdA (K : PySem.W.Frag) (x : Str) : Addr := match K.lookup (He.ga K x) with
  | some ⟨_, _, .func fd, _⟩ => (match fd.code with
    | .ref c => c
    | _ => 0)
  | _ => 0
def tbA (K : PySem.W.Frag) (x : Str) : Addr := match K.lookup (cdA K x) with
  | some ⟨_, _, .fields vs, _⟩ => (match vs.getD 11 .none with
    | .ref P => P
    | _ => 0)
  | _ => 0
def isStr : Value → Bool
  | .str _ _ => true
  | _ => false
def isInt : Value → Bool
  | .int _ _ => true
  | _ => false
def isBool : Value → Bool
  | .bool _ => true
  | _ => false
def emptyTab : Option Obj → Bool
  | some ⟨.none, none, .fields a, sl⟩ => Nat.beq a.size 0 && Nat.beq sl.size 0
  | _ => false
def codeOk (K : PySem.W.Frag) (c P : Addr) : Bool := match K.lookup c with
  | some ⟨.type t, _, .fields vs, _⟩ => decide (t = "code") && decide (vs[11]? = some (.ref P)) && (isStr (vs.getD 18 .none) && (isInt (vs.getD 7 .none) && (isBool (vs.getD 9 .none) && (isInt (vs.getD 10 .none) && !Nat.beq c P))))
  | _ => false
def tabOk (K K2 : PySem.W.Frag) (x : Str) : Bool := (match K.lookup (He.ga K x) with
  | some ⟨_, _, .func fd, _⟩ => decide (fd.code = .ref (cdA K x))
  | _ => false) && (codeOk K (cdA K x) (tbA K x) && (emptyTab (K2.lookup (tbA K x)) && ((K.lookup (tbA K x)).isNone && !Nat.beq (tbA K x) mainGlobals)))
theorem codeOk_ok {K : PySem.W.Frag} {h : Heap} {c P : Addr} (X : K.In h) (q : codeOk K c P = true) : PySem.W.CodeHd h c P := by
  unfold codeOk at q
  split at q
  case h_2 => cases q
  case h_1 t od vs sl e =>
    simp only [Bool.and_eq_true, decide_eq_true_eq] at q
    obtain ⟨⟨q1, q2⟩, q3, q4, q5, q6, q7⟩ := q
    subst q1
    have g11 : vs.getD 11 .none = .ref P := by rw [Array.getD_eq_getD_getElem?, q2, Option.getD_some]
    revert q3 q4 q5 q6
    generalize h18 : vs.getD 18 .none = v18
    generalize h7 : vs.getD 7 .none = v7
    generalize h9 : vs.getD 9 .none = v9
    generalize h10 : vs.getD 10 .none = v10
    intro q3 q4 q5 q6
    have s18 : ∃ f t, v18 = .str f t := by cases v18 <;> first | exact ⟨_, _, rfl⟩ | cases q3
    have s7 : ∃ f t, v7 = .int f t := by cases v7 <;> first | exact ⟨_, _, rfl⟩ | cases q4
    have s9 : ∃ f, v9 = .bool f := by cases v9 <;> first | exact ⟨_, rfl⟩ | cases q5
    have s10 : ∃ f t, v10 = .int f t := by cases v10 <;> first | exact ⟨_, _, rfl⟩ | cases q6
    obtain ⟨f18, t18, rfl⟩ := s18
    obtain ⟨f7, t7, rfl⟩ := s7
    obtain ⟨f9, rfl⟩ := s9
    obtain ⟨f10, t10, rfl⟩ := s10
    refine ⟨_, vs, _, _, _, _, _, _, _, X _ _ e, rfl, rfl, q2, g11, h18, h7, h9, h10, fun z => ?_⟩
    subst z
    rw [Nat.beq_refl] at q7
    cases q7
structure TabF (K : PySem.W.Frag) (h : Heap) (x : Str) : Prop where
  cd : ∀ oc od fd sl, K.lookup (He.ga K x) = some ⟨oc, od, .func fd, sl⟩ → fd.code = .ref (cdA K x)
  hd : PySem.W.CodeHd h (cdA K x) (tbA K x)
  em : h.get? (tbA K x) = some { cls := .none, data := .fields #[] }
  nk : K.lookup (tbA K x) = none
theorem tabOk_ok {K K2 : PySem.W.Frag} {h : Heap} {x : Str} (X : K.In h) (X2 : K2.In h) (q : tabOk K K2 x = true) : TabF K h x := by
  unfold tabOk at q
  simp only [Bool.and_eq_true] at q
  obtain ⟨q1, q2, q3, q4, _⟩ := q
  refine ⟨fun oc od fd sl e => ?_, codeOk_ok X q2, ?_, Option.isNone_iff_eq_none.mp q4⟩
  · rw [e] at q1
    exact of_decide_eq_true q1
  · unfold emptyTab at q3
    split at q3
    case h_2 => cases q3
    case h_1 a sl e =>
      simp only [Bool.and_eq_true] at q3
      have e1 : a = #[] := Array.eq_empty_of_size_eq_zero (Nat.eq_of_beq_eq_true q3.1)
      have e2 : sl = #[] := Array.eq_empty_of_size_eq_zero (Nat.eq_of_beq_eq_true q3.2)
      subst e1 e2
      exact X2 _ _ e
/-! ### own exceptions -/
abbrev iA (K : PySem.W.Frag) (c : Str) : Addr := He.ma K (He.ga K c) "__init__"
def xoneB (K : PySem.W.Frag) (C : Addr) (f : Str) : Bool :=
  He.eqO (PySem.W.findIn K (.ref C) "__getattribute__") (some (some (.builtin "BaseException.__getattribute__"))) && (He.eqO (PySem.W.findIn K (.ref C) "__getattr__") (some none) && (decide (PySem.W.subIn K (.ref C) (.type "BaseException") = some true) && (PySem.W.hasDictIn K C &&
  (He.eqO (PySem.W.findIn K (.ref C) "__class__") (some (some (.builtin "object.__class__"))) && (decide (PySem.W.mroIn K C (.type "object") = some true) && He.eqO (PySem.W.findIn K (.ref C) f) (some none))))))
def xgetB (K : PySem.W.Frag) : Bool := He.eqO (PySem.W.specialIn K (.builtin "object.__class__") "__get__") (some (some (.builtin "getset_descriptor.__get__"))) && decide (PySem.W.takesIn K (.builtin "object.__class__") = some true)
theorem xone_ok {K : PySem.W.Frag} {C : Addr} {f : Str} (g : xgetB K = true) (q : xoneB K C f = true) : ExcC K C ∧ PySem.W.findIn K (.ref C) f = some none := by
  unfold xoneB at q
  unfold xgetB at g
  simp only [Bool.and_eq_true, decide_eq_true_eq] at q g
  obtain ⟨q1, q2, q3, q4, q5, q6, q7⟩ := q
  exact ⟨⟨He.eqO_ok q1, He.eqO_ok q2, q3, q4, He.eqO_ok q5, He.eqO_ok g.1, g.2, q6⟩, He.eqO_ok q7⟩
/-- the classes cs, ps which is below which -/
def xkB (K : PySem.W.Frag) (cs : List Str) (ps : List (Str × Str)) (f : Str) : Bool := xgetB K && ((ps.all fun p => !decide (p.1 = p.2) || cs.contains p.1) && ((cs.all fun c => xoneB K (He.ga K c) f) &&
  cs.all fun c => cs.all fun d => decide (PySem.W.exmOne K (.ref (He.ga K c)) (.ref (He.ga K d)) = some (ps.contains (c, d))) && decide (PySem.W.kitOne K (.ref (He.ga K c)) (.ref (He.ga K d)) = some (ps.contains (c, d)))))
theorem xk_ok {K : PySem.W.Frag} {cs : List Str} {ps : List (Str × Str)} {f : Str} (h : xkB K cs ps f = true) (hf : ∀ g c, ps.contains ("." ++ g, c) = true → f = g) : Xk K (fun c => He.ga K c) (fun _ => f) (subOf ps) := by
  unfold xkB at h
  simp only [Bool.and_eq_true, List.all_eq_true, decide_eq_true_eq, Bool.or_eq_true, Bool.not_eq_true', decide_eq_false_iff_not] at h
  obtain ⟨h1, h2, h3, h4⟩ := h
  have mem : ∀ c, subOf ps c c = true → c ∈ cs := fun c z => by
    have z1 : (c, c) ∈ ps := by simpa [subOf] using z
    rcases h2 _ z1 with y | y
    · exact absurd rfl y
    · simpa using y
  exact ⟨fun c z => xone_ok h1 (h3 c (mem c z)), fun c d z1 z2 => (h4 c (mem c z1) d (mem d z2)).1, fun c d z1 z2 => (h4 c (mem c z1) d (mem d z2)).2, fun g c z => hf g c z⟩
/-- one that is raised -/
def xcB (K : PySem.W.Frag) (c f : Str) : Bool :=
  PySem.W.excInitIn K (He.ga K c) xTail "Exception.__new__" && (PySem.W.excOver K (He.ga K c) xTail && (PySem.W.hasDictIn K (He.ga K c) && (He.eqO (PySem.W.findIn K (.ref (He.ga K c)) "__setattr__") (some (some (.builtin "object.__setattr__"))) && (He.eqO (PySem.W.takerIn K (He.ga K c) f) (some none) &&
  (He.eqO (PySem.W.findIn K (.ref (He.ga K c)) f) (some none) && (decide (PySem.W.subIn K (.ref (He.ga K c)) (.type "BaseException") = some true) && (decide (PySem.W.mroIn K (He.ga K c) (.type "Exception") = some true) && (decide (PySem.W.typeIn K (.ref (He.ga K c)) = some (.type "type")) && (PySem.W.keepIn K (.ref (He.ga K c)) &&
  (He.eqO (PySem.W.findIn K (.ref (He.ga K c)) "__init__") (some (some (.ref (iA K c)))) && (decide (PySem.W.typeIn K (.ref (iA K c)) = some (.type "function")) && (He.eqO (PySem.W.ks_superIn K (He.ga K c) (He.ga K c) "__init__") (some (some (.builtin "Exception.__init__"))) && (decide (PySem.W.mroIn K (He.ga K c) (.ref (He.ga K c)) = some true) && He.eqO (PySem.W.nsIn K cStatics "thirdparty.any") (some none))))))))))))))
theorem xc_ok {K : PySem.W.Frag} {P : Program} {c f : Str} (q : xcB K c f = true) : XcC K P (He.ga K c) (iA K c) f := by
  unfold xcB at q
  simp only [Bool.and_eq_true, decide_eq_true_eq] at q
  obtain ⟨q1, q2, q3, q4, q5, q6, q7, q8, q9, q10, q11, q12, q13, q14, q15⟩ := q
  exact ⟨q1, q2, q3, He.eqO_ok q4, He.eqO_ok q5, He.eqO_ok q6, q7, q8, q9, q10, He.eqO_ok q11, q12, He.eqO_ok q13, q14, He.eqO_ok q15⟩
abbrev XnW : Type := Option (Str × Str × Arguments × FuncBody × Scope × Addr × Addr)
def xnW (K : PySem.W.Frag) (d : He.DefD) : XnW := match K.lookup (iA K d.at_.1) with
  | some ⟨_, _, .func fd, _⟩ => some (fd.name, fd.qualname, fd.params, fd.body, fd.scope, fd.globals, fd.builtins)
  | _ => none
def xnV (d : He.DefD) : XnW := some (d.name, d.qual, d.params, .stmts d.body, d.scope, mainGlobals, builtinsNs)
def xfB (K : PySem.W.Frag) (P : Program) (d : He.DefD) : Bool := match K.lookup (iA K d.at_.1) with
  | some ⟨_, _, .func fd, _⟩ => (match fd.closure, fd.defaults, fd.code with
    | [(x, cc)], .none, .ref cda => decide (x = "__class__") && (PySem.W.codeIn K (.ref cda) d.qual && ((match K.lookup cda with
      | some ⟨_, _, .fields vs, _⟩ => (match (vs[2]? : Option Value) with
        | some (.str file _) => ((P.main.file : Str) == file)
        | _ => false)
      | _ => false) && (match K.lookup cc with
      | some ⟨_, _, .cell (some (.ref C)), _⟩ => decide (C = He.ga K d.at_.1)
      | _ => false)))
    | _, _, _ => false)
  | _ => false
theorem xf_ok {K : PySem.W.Frag} {P : Program} {d : He.DefD} {y z : Str} (e : xnW K d = xnV d) (q : xfB K P d = true) (hp : ∃ ar, (d.params.posonlyargs ++ d.params.args).head? = some ar ∧ ar.arg = y)
    (hb : ∀ (kV doc pm : Value) (an : Option Addr) (cd ct : Value) (cc : Addr) (u v : Value), bindArgs (PySem.W.ksFn d.name d.qual d.params d.body d.scope .none kV doc pm an cd ct cc) ⟨[u, v], []⟩ = pure [(y, u), (z, v)]) :
    XiF K P (He.ga K d.at_.1) (iA K d.at_.1) d.name d.qual d.params d.body d.scope y z := by
  unfold xnW at e
  unfold xfB at q
  cases lk : K.lookup (iA K d.at_.1) with
  | none => rw [lk] at q; cases q
  | some o =>
    obtain ⟨oc, od, dt, osl⟩ := o
    rw [lk] at e q
    cases dt with
    | func fd =>
      obtain ⟨n1, n2, n3, n4, n5, n6, n7, n8, n9, n10, n11, n12, n13, n14, n15⟩ := fd
      have e2 : (some (n1, n2, n3, n4, n5, n6, n15) : XnW) = some (d.name, d.qual, d.params, .stmts d.body, d.scope, mainGlobals, builtinsNs) := e
      simp only [Option.some.injEq, Prod.mk.injEq] at e2
      obtain ⟨h1, h2, h3, h4, h5, h6, h7⟩ := e2
      subst h1 h2 h3 h4 h5 h6 h7
      dsimp only at q
      split at q
      case h_2 => cases q
      case h_1 x cc cda =>
        simp only [Bool.and_eq_true, decide_eq_true_eq] at q
        obtain ⟨q1, q2, q3, q4⟩ := q
        subst q1
        refine ⟨⟨oc, od, n9, n10, n11, n12, cda, cc, n14, osl, lk, q2, ?_, ?_⟩, hp, hb⟩
        · split at q3
          case h_2 => cases q3
          case h_1 c1 c2 vs c4 e1 =>
            split at q3
            case h_2 => cases q3
            case h_1 file tf e3 => exact ⟨c1, c2, vs, c4, file, tf, e1, e3, q3⟩
        · split at q4
          case h_2 => cases q4
          case h_1 c1 c2 C c4 e1 =>
            have e5 := of_decide_eq_true q4
            subst e5
            exact ⟨c1, c2, c4, e1⟩
    | _ => cases q
/-! ### what is looked at -/
abbrev AlT : Type := He.AlD × Bool × List XnW
def obT (as ts : List Addr) (fa : List He.Fa) (fn xn : List He.DefD) (mk : List Str) (fx : PySem.W.Frag → Bool) (g : Addr → Option Obj) : AlT :=
  (He.obsD fa fn (He.frG g as), fx (He.frG g as) && mk.all fun x => tabOk (He.frG g as) (He.frG g ts) x, xn.map (xnW (He.frG g as)))
structure SaysT (fa : List He.Fa) (fn xn : List He.DefD) (mk : List Str) (fx : PySem.W.Frag → Bool) (K : PySem.W.Frag) (h : Heap) : Prop where
  kin : K.In h
  d : He.SaysD fa fn K
  fx : fx K = true
  tab : ∀ x ∈ mk, TabF K h x
  xn : xn.map (xnW K) = xn.map xnV
def hookT (as ts : List Addr) (fa : List He.Fa) (fn xn : List He.DefD) (mk : List Str) (fx : PySem.W.Frag → Bool) : PySem.W.Hook where
  α := AlT
  obs := fun s => obT as ts fa fn xn mk fx s.heap.get?
  val := fun _ => (He.valD fn, true, xn.map xnV)
  says := fun _ h => ∃ K : PySem.W.Frag, SaysT fa fn xn mk fx K h
  of := fun w s e => by
    have e1 : He.obsD fa fn (He.frG s.heap.get? as) = He.valD fn := congrArg Prod.fst e
    have e2 : (fx (He.frG s.heap.get? as) && mk.all fun x => tabOk (He.frG s.heap.get? as) (He.frG s.heap.get? ts) x) = true := congrArg (fun z => z.2.1) e
    have e3 : xn.map (xnW (He.frG s.heap.get? as)) = xn.map xnV := congrArg (fun z => z.2.2) e
    obtain ⟨e4, e5⟩ := He.ba e2
    exact ⟨_, He.frG_in, e1, e4, fun x hx => tabOk_ok He.frG_in (K2 := He.frG s.heap.get? ts) He.frG_in (List.all_eq_true.mp e5 x hx), e3⟩
  keeps := fun w h h' ⟨K, q⟩ k => ⟨K, PySem.W.Frag.In.keeps q.kin k, q.d, q.fx, fun x hx => ⟨(q.tab x hx).cd, (q.tab x hx).hd.keeps k, k _ _ (q.tab x hx).em, (q.tab x hx).nk⟩, q.xn⟩
theorem obT_eq {as ts : List Addr} {fa : List He.Fa} {fn xn : List He.DefD} {mk : List Str} {fx : PySem.W.Frag → Bool} {g : Addr → Option Obj} {s : Shared} (h : ∀ a, g a = s.heap.get? a) : obT as ts fa fn xn mk fx g = (hookT as ts fa fn xn mk fx).obs s := by
  have e : g = s.heap.get? := funext h
  rw [e] <;> rfl
end Q

/-! a law's end, with tables of code objects -/
namespace Q
open PySem PySem.Spec PyProof.Rows L2
/-- what the heap has at the law's entry: the script, the tables, no more -/
structure Ent (K : PySem.W.Frag) (mk : List Str) (s : Shared) (H : Hp) : Prop where
  tb : ∀ x ∈ mk, H (tbA K x) = some (.tbl #[])
  is : ∀ b u, H b = some u → ((∃ x ∈ mk, b = tbA K x) ∧ u = .tbl #[]) ∨ ∃ vs n xs o, u = .frz o (.lst xs) ∧ o.data = .seq vs n ∧ s.heap.get? b = some o
  nk : ∀ b o, K.lookup b = some o → H b = none
theorem Ent.dat {K : PySem.W.Frag} {mk : List Str} {s : Shared} {H : Hp} (e : Ent K mk s H) (tf : ∀ x ∈ mk, TabF K s.heap x) {b : Addr} {o : Obj} (h : s.heap.get? b = some o) (h1 : ∀ vs n, o.data ≠ .seq vs n) (h2 : o.data ≠ .fields #[]) : H b = none := by
  cases q : H b with
  | none => rfl
  | some u =>
    rcases e.is b u q with ⟨⟨x, hx, rfl⟩, _⟩ | ⟨vs, n, xs, o', _, z1, z2⟩
    · rw [(tf x hx).em] at h
      cases h
      exact (h2 rfl).elim
    · rw [h] at z2
      cases z2
      exact (h1 _ _ z1).elim
theorem law_fromT {P : Program} {w : World} {K : PySem.W.Frag} {mg mb : Str → Option Value} {n : Nat} {fa a : Addr} {fd : FuncData} {x : Str} {sp : Sp} {mk : List Str} {s : Shared} {H : Hp} (KX : K.In s.heap) (tf : ∀ x ∈ mk, TabF K s.heap x) (hns : s.heap.Ns mainGlobals mg) (hb : s.heap.Ns builtinsNs mb) (hbb : ∀ x : Str, x ≠ "__name__" → mb x = bootBuiltins x) (hlim : s.heap.NoLimit) (hg : s.gens = #[])
    (hbm : ∃ (bm : Addr) (ob : Obj), mg "__builtins__" = some (.ref bm) ∧ bm ≠ builtinsNs ∧ s.heap.get? bm = some ob ∧ ob.cls = .type "module" ∧ ob.dict = some builtinsNs ∧ ob.data = .plain)
    (hr : Rq n callerA) (F : ∀ base : Heap, K.In base → base.Ns mainGlobals mg → (∀ x ∈ mk, LamX.TabB base mg (cdA K x) (tbA K x)) → Fq P w K mg base n fa fd [x] sp) (hbind : ∀ (s : Shared) (u : Value), BindsTo s fd ⟨[u], []⟩ [(x, u)]) (hok : HOk P w H s.heap) (en : Ent K mk s H)
    (hsp : sp [.ref a] H (fun v _ => v = .bl true) fun _ _ _ => False) :
    codeAny (model P w) callerA (.call (.ref fa) ⟨[.ref a], []⟩) (fun r s' => r = .ok (.ret (.bool true)) ∧ OldK s.heap s'.heap ∧ s'.os = s.os ∧ AllBare s'.gens) s := by
  have dct : ∀ b o es ep, s.heap.get? b = some o → o.data = .dict es ep → H b = none := fun b o es ep e d => en.dat tf e (fun vs n z => by rw [d] at z; cases z) fun z => by rw [d] at z; cases z
  have up : ∀ {b m}, s.heap.Ns b m → (hidT s.heap H).Ns b m := fun {b m} ⟨o, es, ep, h1, h2, h3⟩ => ⟨o, es, ep, hidT_get h1 (dct b o es ep h1 h2), h2, h3⟩
  have kb : K.In (hidT s.heap H) := fun b o z => hidT_get (KX b o z) (en.nk b o z)
  obtain ⟨mc, l1, l2⟩ := hlim
  have mo : Mod K mg (hidT s.heap H) := ⟨kb, up hns, ⟨mb, up hb, hbb⟩, ⟨mc, up l1, l2⟩⟩
  have ns0 : ∀ y ∈ mk, mainGlobals ≠ tbA K y := fun y hy z => by
    obtain ⟨o, es, ep, h1, h2, _⟩ := hns
    rw [z, (tf y hy).em] at h1
    cases h1; cases h2
  have TB : ∀ y ∈ mk, LamX.TabB (hidT s.heap H) mg (cdA K y) (tbA K y) := fun y hy => by
    refine ⟨?_, ?_, ns0 y hy⟩
    · obtain ⟨o, us, v1, v2, v3, v4, v5, v6, v7, e1, r1, r2, r3, r⟩ := (tf y hy).hd
      refine ⟨o, us, v1, v2, v3, v4, v5, v6, v7, hidT_get e1 (en.dat tf e1 (fun vs n z => ?_) fun z => ?_), r1, r2, r3, r⟩
      · rw [r2] at z; cases z
      · rw [r2] at z
        cases z
        cases r3
    · obtain ⟨bm, ob, b1, b2, b3, b4, b5, b6⟩ := hbm
      refine ⟨bm, ob, b1, b2, fun z => ?_, fun z => ?_, hidT_get b3 (en.dat tf b3 (fun vs n z => by rw [b6] at z; cases z) fun z => by rw [b6] at z; cases z), b4, b5, b6⟩
      · obtain ⟨o, es, ep, h1, h2, _⟩ := hns
        rw [← z, b3] at h1
        cases h1
        rw [b6] at h2; cases h2
      · rw [z, (tf y hy).em] at b3
        cases b3; cases b6
  have e0 : Env0 P w K mg (hidT s.heap H) callerA [] s H := { frames := rfl, mod := mo, bs := fun b o z => of_hidT z, bsz := Nat.le_of_eq (hidT_size _ _), funs := trivial, frf := fun b z => (List.not_mem_nil z).elim, hok := hok, bare := .of_eq hg }
  have run := (F _ kb (up hns) TB).run callerA [] s H ⟨[.ref a], []⟩ [.ref a] [.ref a] _ _ hr e0 (hbind s _) (.cons rfl .nil) hsp
  refine codeAny_mono run fun r s2 z => ?_
  rcases r with e | fl
  · exact (cx_none z).elim
  · rcases fl with _ | _ | _ | u
    · exact z.elim
    · exact z.elim
    · exact z.elim
    · obtain ⟨v, H2, q1, q2, q3, q4, q5, rfl⟩ := z
      cases q5
      have keep : ∀ b o, (∀ y ∈ mk, b ≠ tbA K y) → s.heap.get? b = some o → s2.heap.get? b = some o := fun b o nb hbo => by
        cases q : H b with
        | none => exact q3.keep b o hbo q (fun z => (List.not_mem_nil z).elim) List.not_mem_nil
        | some u =>
          rcases en.is b u q with ⟨⟨y, hy, z⟩, _⟩ | ⟨vs, m, xs, o', rfl, _, _⟩
          · exact (nb y hy z).elim
          · have w1 := (hok b _ q).1
            have w2 := (q4 b _ (q3.frzs b _ _ q)).1
            rw [hbo] at w1
            rw [w2]; exact w1.symm
      have grow : ∀ y ∈ mk, ∃ more : Array Value, s2.heap.get? (tbA K y) = some { cls := .none, data := .fields more } := fun y hy => by
        obtain ⟨more, z⟩ := q3.tbls _ #[] (en.tb y hy)
        exact ⟨_, q4 _ _ z⟩
      refine ⟨rfl, ⟨fun b o hbo => ?_, fun b o hbo => ?_⟩, q1, q2⟩
      · by_cases hy : ∃ y ∈ mk, b = tbA K y
        · obtain ⟨y, hy, rfl⟩ := hy
          obtain ⟨more, hm⟩ := grow y hy
          rw [(tf y hy).em] at hbo
          cases hbo
          exact .inr (.inl ⟨((tf y hy).hd.tab (tf y hy).em).isCodeTable, rfl, #[], more, rfl, by rw [Array.empty_append]; exact hm⟩)
        · exact .inl (keep b o (fun y h z => hy ⟨y, h, z⟩) hbo)
      · by_cases hy : ∃ y ∈ mk, b = tbA K y
        · obtain ⟨y, hy, rfl⟩ := hy
          obtain ⟨more, hm⟩ := grow y hy
          exact ⟨_, hm⟩
        · exact ⟨o, keep b o (fun y h z => hy ⟨y, h, z⟩) hbo⟩
/-- a law's end -/
theorem walk_t {l : PySem.W.OpenLaw} {m n : Nat} {q : Program} {loose : List Str} {XP : (Str → Option Value) → Heap → Prop} {YP : World → Heap → Prop} {d : DefRec} {x : Str} {mk : List Str} (hn : l.most = some m) (hm : m ≤ sizeLine) (hdf : d.params.defaults = []) (hr : Rq n callerA)
    (F : ∀ (w : World) (mg : Str → Option Value) (fa : Addr) (h : Heap), YP w h → h.Ns mainGlobals mg → mg d.name = some (.ref fa) → ∃ (K : PySem.W.Frag) (fd : FuncData) (sp : Sp), K.In h ∧ (∀ y ∈ mk, TabF K h y) ∧ (∀ (s : Shared) (u : Value), BindsTo s fd ⟨[u], []⟩ [(x, u)]) ∧
      (∀ (H : Hp) (a : Addr) (ns : List Int), ns.length ≤ m → (∀ z ∈ ns, Builtin.Int.intBits z ≤ 1048576) → (∀ y ∈ mk, H (tbA K y) = some (.tbl #[])) → SqL K H a (ns.map V.int) → sp [.ref a] H (fun v _ => v = .bl true) fun _ _ _ => False) ∧ ∀ base : Heap, K.In base → base.Ns mainGlobals mg → (∀ y ∈ mk, LamX.TabB base mg (cdA K y) (tbA K y)) → Fq l.prog w K mg base n fa fd [x] sp) :
    PySem.W.WalkO q loose XP YP l.row.toRowW d [] (fun f vs => PySem.call f vs) := by
  refine Att.attach_callB hn hdf fun w s0 s1 mg mb fa o pm cd doc a vs ns G Y ho hd hcd hmg hobj hints hlen hbits hg => ?_
  obtain ⟨K, fd, sp, KX, tf, hb, hsp, hF⟩ := F w mg fa _ Y G.T.g hmg
  have rv := vals_ints hints
  have lv := hints.length
  have hls : ns.length ≤ sizeLine := Nat.le_trans hlen hm
  have nt : ∀ y ∈ mk, tbA K y ≠ a := fun y hy z => by
    have := (tf y hy).em
    rw [z, hobj] at this
    cases this
  have go := fun (H : Hp) (hok : HOk l.prog w H s1.heap) (hS : SqL K H a (ns.map V.int)) (en : Ent K mk s1 H) => law_fromT (a := a) KX tf G.T.g G.T.b G.T.builtins G.T.nolimit hg G.T.bmain hr hF hb hok en (hsp H a ns hlen hbits en.tb hS)
  by_cases hk : K.lookup a = none
  · generalize hH : (fun b => if b = a then some (HO.frz { cls := .type "list", data := .seq vs.toArray } (.lst (ns.map V.int))) else if b ∈ mk.map (tbA K) then some (.tbl #[]) else none : Hp) = H
    have ea : H a = some (.frz { cls := .type "list", data := .seq vs.toArray } (.lst (ns.map V.int))) := by rw [← hH]; exact if_pos rfl
    have et : ∀ y ∈ mk, H (tbA K y) = some (.tbl #[]) := fun y hy => by
      rw [← hH]
      exact (if_neg (nt y hy)).trans (if_pos (List.mem_map.mpr ⟨y, hy, rfl⟩))
    have cs : ∀ b u, H b = some u → (b = a ∧ u = .frz { cls := .type "list", data := .seq vs.toArray } (.lst (ns.map V.int))) ∨ (∃ y ∈ mk, b = tbA K y) ∧ u = .tbl #[] := fun b u z => by
      rw [← hH] at z
      by_cases hba : b = a
      · have z := (if_pos hba).symm.trans z
        exact .inl ⟨hba, (Option.some.inj z).symm⟩
      · have z := (if_neg hba).symm.trans z
        by_cases hm : b ∈ mk.map (tbA K)
        · have z := (if_pos hm).symm.trans z
          obtain ⟨y, hy, e⟩ := List.mem_map.mp hm
          exact .inr ⟨⟨y, hy, e.symm⟩, (Option.some.inj z).symm⟩
        · have z := (if_neg hm).symm.trans z
          cases z
    refine go H (fun b u z => ?_) (.inl (.inr ⟨_, ea⟩)) ⟨et, fun b u z => ?_, fun b o h1 => ?_⟩
    · rcases cs b u z with ⟨rfl, rfl⟩ | ⟨⟨y, hy, rfl⟩, rfl⟩
      · exact ⟨hobj, by rw [List.length_map]; exact hls, vs, _, rv, hobj⟩
      · exact (tf y hy).em
    · rcases cs b u z with ⟨rfl, rfl⟩ | h
      · exact .inr ⟨_, _, _, _, rfl, rfl, hobj⟩
      · exact .inl h
    · cases z : H b with
      | none => rfl
      | some u =>
        rcases cs b u z with ⟨rfl, _⟩ | ⟨⟨y, hy, rfl⟩, _⟩
        · rw [hk] at h1; cases h1
        · rw [(tf y hy).nk] at h1; cases h1
  · obtain ⟨u, hu⟩ := Option.ne_none_iff_exists'.mp hk
    have z := KX a u hu
    rw [hobj] at z
    cases z
    generalize hH : (fun b => if b ∈ mk.map (tbA K) then some (.tbl #[]) else none : Hp) = H
    have et : ∀ y ∈ mk, H (tbA K y) = some (.tbl #[]) := fun y hy => by
      rw [← hH]
      exact if_pos (List.mem_map.mpr ⟨y, hy, rfl⟩)
    have cs : ∀ b u, H b = some u → (∃ y ∈ mk, b = tbA K y) ∧ u = .tbl #[] := fun b u z => by
      rw [← hH] at z
      by_cases hm : b ∈ mk.map (tbA K)
      · have z := (if_pos hm).symm.trans z
        obtain ⟨y, hy, e⟩ := List.mem_map.mp hm
        exact ⟨⟨y, hy, e.symm⟩, (Option.some.inj z).symm⟩
      · have z := (if_neg hm).symm.trans z
        cases z
    refine go H (fun b u z => ?_) (.inr ⟨_, vs.toArray, _, hu, rfl, rfl, rfl, ?_, ?_⟩) ⟨et, fun b u z => .inl (cs b u z), fun b o h1 => ?_⟩
    · obtain ⟨⟨y, hy, rfl⟩, rfl⟩ := cs b u z
      exact (tf y hy).em
    · rw [List.size_toArray, lv]; exact hls
    · simpa using rv
    · cases z : H b with
      | none => rfl
      | some u =>
        obtain ⟨⟨y, hy, rfl⟩, _⟩ := cs b u z
        rw [(tf y hy).nk] at h1; cases h1
/-- a maker's def knows its code object -/
theorem fn_succ2 {K : PySem.W.Frag} {cl : Cls} {fld : Str → Str} {P : Program} {w : World} {mg : Str → Option Value} {base : Heap} {n : Nat} {d : He.DefD} {N ps : List Str} {ib : List IS} {fa : Addr} {fd : FuncData} {phi : List Sl → Ds → Rs Sl} {G : Gx} (hp : ∀ ss k, phi ss k = run G ⟨ps.length, N.length, ib⟩ ss k) (hm : mg d.name = some (.ref fa)) (hD : FunD K d.name d.qual d.params d.body d.scope [] [] fa fd) (S : FnScope N ps d.scope) (hsys : SysM K) (hcp : cl.P = P) (hcw : cl.w = w) (hno : cl.h0 = none) (hpl : ps.length ≤ N.length) {c : Addr}
    (hc : ∀ oc od fd sl, K.lookup fa = some ⟨oc, od, .func fd, sl⟩ → fd.code = .ref c)
    (hb : ∀ (B : Around) (fr : List Env) (s : Shared) (H : Hp) (E : XK), Cq ⟨K, cl, fld, G⟩ (fun c x _ H => E c x H) (cxOf (L2.CX P w) P w K mg base N d.qual d.scope fa (.ref c) B fr s H E) n →
      PassesOwn (model P w) (cxOf (L2.CX P w) P w K mg base N d.qual d.scope fa (.ref c) B fr s H E).A (cxOf (L2.CX P w) P w K mg base N d.qual d.scope fa (.ref c) B fr s H E).env (cxOf (L2.CX P w) P w K mg base N d.qual d.scope fa (.ref c) B fr s H E).xe →
      PSs (cxOf (L2.CX P w) P w K mg base N d.qual d.scope fa (.ref c) B fr s H E) d.body (tSs ⟨K, cl, fld, G⟩ (fun c x _ H => E c x H) ib)) : Fn K cl fld P w mg base (n + 1) phi ps d := by
  have e : phi = run G ⟨ps.length, N.length, ib⟩ := funext fun ss => funext fun k => hp ss k
  subst e
  refine ⟨⟨fa, fd, hm, hD, fn_ok (V0 := ⟨K, cl, fld, G⟩) hD S hsys hcp hcw hno hpl fun cd q => ?_⟩, fun ss k h => run_len h⟩
  obtain ⟨_, _, _, _, _, _, _, _, _, _, rfl, lk, _⟩ := hD.ex
  have z := hc _ _ _ _ lk
  have z2 : cd = .ref c := q.symm.trans z
  subst z2
  exact hb
end Q

/-! what the printed walks name -/
namespace Q
open PySem PySem.Spec PyProof.Rows L2
theorem kn_nil {P : Str → Prop} : ∀ c ∈ ([] : List Str), P c := fun _ h => nomatch h
theorem kn_cons {P : Str → Prop} {a : Str} {l : List Str} (h : P a) (r : ∀ c ∈ l, P c) : ∀ c ∈ a :: l, P c := fun c hc => by
  rcases List.mem_cons.mp hc with rfl | hc
  · exact h
  · exact r c hc
def nmT (y : Str) : Str := (y ++ ".<locals>.") ++ "<lambda>"
def mkT (K : PySem.W.Frag) (mk : List Str) : List (Addr × Str) := mk.map fun y => (tbA K y, nmT y)
theorem mkT_mem {K : PySem.W.Frag} {mk : List Str} {x : Str} (h : x ∈ mk) : (tbA K x, nmT x) ∈ mkT K mk := List.mem_map.mpr ⟨x, h, rfl⟩
theorem nd_in {α β : Type} {f : α → β} : ∀ {l : List α} {x y : α}, (l.map f).Nodup → x ∈ l → y ∈ l → f y = f x → y = x
  | a :: l, x, y, nd, hx, hy, e => by
    rw [List.map_cons, List.nodup_cons] at nd
    have h0 : ∀ z ∈ l, f z ≠ f a := fun z hz q => nd.1 (q ▸ List.mem_map_of_mem hz)
    cases hx with
    | head =>
      cases hy with
      | head => rfl
      | tail _ hy => exact absurd e (h0 y hy)
    | tail _ hx =>
      cases hy with
      | head => exact absurd e.symm (h0 x hx)
      | tail _ hy => exact nd_in nd.2 hx hy e
theorem mkT_only {K : PySem.W.Frag} {mk : List Str} {x : Str} (nd : (mk.map (tbA K)).Nodup) (h : x ∈ mk) : ∀ p ∈ mkT K mk, p.1 = tbA K x → p.2 = nmT x := fun p hp e => by
  obtain ⟨y, hy, rfl⟩ := List.mem_map.mp hp
  have e : tbA K y = tbA K x := e
  rw [nd_in nd h hy e]
theorem mkT_nil {K : PySem.W.Frag} {mk : List Str} {H : Hp} (h : ∀ y ∈ mk, H (tbA K y) = some (.tbl #[])) : LamX.Tabs (mkT K mk) H := fun p hp => by
  obtain ⟨y, hy, rfl⟩ := List.mem_map.mp hp
  exact LamX.TabS.nil (h y hy)
theorem lt2 {n m : Nat} (h : n = m + 2) : m < n := by omega
theorem strong {P : Nat → Prop} (h : ∀ n, (∀ m, m < n → P m) → P n) (n : Nat) : P n := Nat.strongRecOn n h
theorem xn_at {K : PySem.W.Frag} {xn : List He.DefD} (e : xn.map (xnW K) = xn.map xnV) (i : Nat) {d : He.DefD} (h : xn[i]? = some d := by rfl) : xnW K d = xnV d := by
  have z : (xn.map (xnW K))[i]? = (xn.map xnV)[i]? := by rw [e]
  rw [List.getElem?_map, List.getElem?_map, h] at z
  exact Option.some.inj z
/-- the fields' keys -/
def flB (ps : List (Str × Str)) (f : Str) : Bool := ps.all fun p => match p.1.cps.toList with
  | c :: r => !Nat.beq c 46 || decide (r = f.cps.toList)
  | [] => true
theorem fl_ok {ps : List (Str × Str)} {f : Str} (h : flB ps f = true) (g c : Str) (q : ps.contains ("." ++ g, c) = true) : f = g := by
  have m : ("." ++ g, c) ∈ ps := by simpa using q
  have z := List.all_eq_true.mp h _ m
  have e : (("." ++ g : Str)).cps.toList = 46 :: g.cps.toList := by
    show ((("." : Str)).cps ++ g.cps).toList = _
    rw [Array.toList_append]
    rfl
  simp only [e] at z
  have z2 : g.cps.toList = f.cps.toList := by simpa using z
  cases g; cases f
  simp only at z2
  exact congrArg Str.mk (Array.toList_inj.mp z2.symm)
end Q

namespace Q
namespace K00
open PySem PySem.Spec PyProof.Rows L2

abbrev top (i : Nat) : Stmt := PySem.Challenge.pw_quotientcells_k00_schemes_of_any_value.main.body.getD i (.Pass ⟨0, 0, 0, 0⟩)
abbrev d_p_two : He.DefD := ⟨("two", none), "two", "two", defArgs (top 5), defBody (top 5), defScope (top 5), [], []⟩
abbrev N_p_two : List Str := ["n"]
abbrev P_p_two : List Str := ["n"]
abbrev d_p_is_integer : He.DefD := ⟨("is_integer", none), "is_integer", "is_integer", defArgs (top 6), defBody (top 6), defScope (top 6), [], []⟩
abbrev N_p_is_integer : List Str := ["thing"]
abbrev P_p_is_integer : List Str := ["thing"]
abbrev d_p_is_tuple : He.DefD := ⟨("is_tuple", none), "is_tuple", "is_tuple", defArgs (top 7), defBody (top 7), defScope (top 7), [], []⟩
abbrev N_p_is_tuple : List Str := ["thing", "length"]
abbrev P_p_is_tuple : List Str := ["thing", "length"]
abbrev d_p_is_scheme_value : He.DefD := ⟨("is_scheme_value", none), "is_scheme_value", "is_scheme_value", defArgs (top 8), defBody (top 8), defScope (top 8), [], []⟩
abbrev N_p_is_scheme_value : List Str := ["thing"]
abbrev P_p_is_scheme_value : List Str := ["thing"]
abbrev d_p_need_scheme : He.DefD := ⟨("need_scheme", none), "need_scheme", "need_scheme", defArgs (top 9), defBody (top 9), defScope (top 9), [], []⟩
abbrev N_p_need_scheme : List Str := ["scheme"]
abbrev P_p_need_scheme : List Str := ["scheme"]
abbrev d_p_fraction : He.DefD := ⟨("fraction", none), "fraction", "fraction", defArgs (top 10), defBody (top 10), defScope (top 10), [], []⟩
abbrev N_p_fraction : List Str := ["top", "bottom", "common"]
abbrev P_p_fraction : List Str := ["top", "bottom"]
abbrev d_p_is_scheme : He.DefD := ⟨("is_scheme", none), "is_scheme", "is_scheme", defArgs (top 12), defBody (top 12), defScope (top 12), [], []⟩
abbrev N_p_is_scheme : List Str := ["thing"]
abbrev P_p_is_scheme : List Str := ["thing"]
abbrev d_p_bound : He.DefD := ⟨("bound", none), "bound", "bound", defArgs (top 13), defBody (top 13), defScope (top 13), [], []⟩
abbrev N_p_bound : List Str := ["scheme"]
abbrev P_p_bound : List Str := ["scheme"]
abbrev d_law_deck : He.DefD := ⟨("_law_deck", none), "_law_deck", "_law_deck", defArgs (top 15), defBody (top 15), defScope (top 15), [], []⟩
abbrev N_law_deck : List Str := ["script", "mixed", "cell"]
abbrev P_law_deck : List Str := ["script"]
abbrev d_law_draw : He.DefD := ⟨("_law_draw", none), "_law_draw", "_law_draw", defArgs (top 16), defBody (top 16), defScope (top 16), [], []⟩
abbrev N_law_draw : List Str := ["deck", "many", "figure", "cell"]
abbrev P_law_draw : List Str := ["deck", "many"]
abbrev d_law_pick_fa54 : He.DefD := ⟨("_law_pick", none), "_law_pick", "_law_pick", defArgs (top 17), defBody (top 17), defScope (top 17), [], []⟩
abbrev N_law_pick_fa54 : List Str := ["deck", "some"]
abbrev P_law_pick_fa54 : List Str := ["deck", "some"]
abbrev d_law_power : He.DefD := ⟨("_law_power", none), "_law_power", "_law_power", defArgs (top 18), defBody (top 18), defScope (top 18), [], []⟩
abbrev N_law_power : List Str := ["base", "many", "found", "turn"]
abbrev P_law_power : List Str := ["base", "many"]
abbrev d_law_two : He.DefD := ⟨("_law_two", none), "_law_two", "_law_two", defArgs (top 19), defBody (top 19), defScope (top 19), [], []⟩
abbrev N_law_two : List Str := ["many"]
abbrev P_law_two : List Str := ["many"]
abbrev d_law_is_int_7e02 : He.DefD := ⟨("_law_is_int", none), "_law_is_int", "_law_is_int", defArgs (top 20), defBody (top 20), defScope (top 20), [], []⟩
abbrev N_law_is_int_7e02 : List Str := ["thing"]
abbrev P_law_is_int_7e02 : List Str := ["thing"]
abbrev d_law_is_tuple : He.DefD := ⟨("_law_is_tuple", none), "_law_is_tuple", "_law_is_tuple", defArgs (top 21), defBody (top 21), defScope (top 21), [], []⟩
abbrev N_law_is_tuple : List Str := ["thing", "many"]
abbrev P_law_is_tuple : List Str := ["thing", "many"]
abbrev d_law_is_scheme_8282 : He.DefD := ⟨("_law_is_scheme", none), "_law_is_scheme", "_law_is_scheme", defArgs (top 22), defBody (top 22), defScope (top 22), [], []⟩
abbrev N_law_is_scheme_8282 : List Str := ["thing"]
abbrev P_law_is_scheme_8282 : List Str := ["thing"]
abbrev d_law_bound : He.DefD := ⟨("_law_bound", none), "_law_bound", "_law_bound", defArgs (top 23), defBody (top 23), defScope (top 23), [], []⟩
abbrev N_law_bound : List Str := ["scheme", "top", "bottom", "common"]
abbrev P_law_bound : List Str := ["scheme"]
abbrev d_law_tried_a214 : He.DefD := ⟨("_law_tried", none), "_law_tried", "_law_tried", defArgs (top 24), defBody (top 24), defScope (top 24), [], []⟩
abbrev N_law_tried_a214 : List Str := ["call", "found", "e"]
abbrev P_law_tried_a214 : List Str := ["call"]
abbrev d_law_any_56cc : He.DefD := ⟨("_law_any", none), "_law_any", "_law_any", defArgs (top 25), defBody (top 25), defScope (top 25), [], []⟩
abbrev N_law_any_56cc : List Str := ["deck", "k", "a", "way"]
abbrev P_law_any_56cc : List Str := ["deck"]
abbrev d_lawk00 : He.DefD := ⟨("law", none), "law", "law", defArgs (top 26), defBody (top 26), defScope (top 26), [], []⟩
abbrev N_lawk00 : List Str := ["script", "deck", "turn", "scheme", "thing", "due", "told", "asked"]
abbrev P_lawk00 : List Str := ["script"]
abbrev dx_BadScheme : He.DefD := ⟨("BadScheme", some "__init__"), "__init__", "BadScheme.__init__", defArgs (inClass (top 3) 0), defBody (inClass (top 3) 0), defScope (inClass (top 3) 0), [], []⟩
/-- the module's names -/
structure Mg (K : PySem.W.Frag) (gl : Str → Option D) (mg : Str → Option Value) : Prop where
  n_bool : mg "bool" = none
  n_int : mg "int" = none
  n_isinstance : mg "isinstance" = none
  n_len : mg "len" = none
  n_list : mg "list" = none
  n_max : mg "max" = none
  n_range : mg "range" = none
  n_repr : mg "repr" = none
  n_str : mg "str" = none
  n_super : mg "super" = none
  n_tuple : mg "tuple" = none
  m_gcd : mg "gcd" = some (.builtin "math.gcd")
/-- the classes -/
structure Kl (K : PySem.W.Frag) (at_ : Str → Addr) (fld : Str → Str) (sub : Str → Str → Bool) (P : Program) (mg : Str → Option Value) : Prop where
  xk : Xk K at_ fld sub
  top : (P.main.scope.names.lookup ("super" : Str)).isSome = false
  m_DividerError : mg "DividerError" = some (.ref (at_ "DividerError"))
  s_DividerError : sub "DividerError" "DividerError" = true
  m_BadScheme : mg "BadScheme" = some (.ref (at_ "BadScheme"))
  s_BadScheme : sub "BadScheme" "BadScheme" = true
  xc_BadScheme : XcC K P (at_ "BadScheme") (He.ma K (at_ "BadScheme") "__init__") (fld "BadScheme")
  xf_BadScheme : XiF K P (at_ "BadScheme") (He.ma K (at_ "BadScheme") "__init__") dx_BadScheme.name dx_BadScheme.qual dx_BadScheme.params dx_BadScheme.body dx_BadScheme.scope "self" "thing"
  xb_BadScheme : XiB dx_BadScheme.qual dx_BadScheme.body dx_BadScheme.scope (fld "BadScheme") "self" "thing"
structure Tb (K : PySem.W.Frag) (cl : Cls) (fld : Str → Str) (P : Program) (w : World) (mg : Str → Option Value) (base : Heap) (n : Nat) (phi : Phi) : Prop where
  p_two : Fn K cl fld P w mg base n (phi 0) P_p_two d_p_two
  p_is_integer : Fn K cl fld P w mg base n (phi 1) P_p_is_integer d_p_is_integer
  p_is_tuple : Fn K cl fld P w mg base n (phi 2) P_p_is_tuple d_p_is_tuple
  p_is_scheme_value : Fn K cl fld P w mg base n (phi 3) P_p_is_scheme_value d_p_is_scheme_value
  p_need_scheme : Fn K cl fld P w mg base n (phi 4) P_p_need_scheme d_p_need_scheme
  p_fraction : Fn K cl fld P w mg base n (phi 5) P_p_fraction d_p_fraction
  p_is_scheme : Fn K cl fld P w mg base n (phi 6) P_p_is_scheme d_p_is_scheme
  p_bound : Fn K cl fld P w mg base n (phi 7) P_p_bound d_p_bound
  law_deck : Fn K cl fld P w mg base n (phi 8) P_law_deck d_law_deck
  law_draw : Fn K cl fld P w mg base n (phi 9) P_law_draw d_law_draw
  law_pick_fa54 : Fn K cl fld P w mg base n (phi 10) P_law_pick_fa54 d_law_pick_fa54
  law_power : Fn K cl fld P w mg base n (phi 11) P_law_power d_law_power
  law_two : Fn K cl fld P w mg base n (phi 12) P_law_two d_law_two
  law_is_int_7e02 : Fn K cl fld P w mg base n (phi 13) P_law_is_int_7e02 d_law_is_int_7e02
  law_is_tuple : Fn K cl fld P w mg base n (phi 14) P_law_is_tuple d_law_is_tuple
  law_is_scheme_8282 : Fn K cl fld P w mg base n (phi 15) P_law_is_scheme_8282 d_law_is_scheme_8282
  law_bound : Fn K cl fld P w mg base n (phi 16) P_law_bound d_law_bound
  law_any_56cc : Fn K cl fld P w mg base n (phi 18) P_law_any_56cc d_law_any_56cc
  lawk00 : Fn K cl fld P w mg base n (phi 19) P_lawk00 d_lawk00
theorem bn_p_two (kV doc pm : Value) (an : Option Addr) (cdv ct : Value) (us : List Value) (hl : us.length = P_p_two.length) : bindArgs (PySem.W.fnOf d_p_two.name d_p_two.qual d_p_two.params d_p_two.body d_p_two.scope .none kV doc pm an cdv ct) ⟨us, []⟩ = pure (List.zip P_p_two us) := match us, hl with
  | [_], _ => rfl
theorem bn_p_is_integer (kV doc pm : Value) (an : Option Addr) (cdv ct : Value) (us : List Value) (hl : us.length = P_p_is_integer.length) : bindArgs (PySem.W.fnOf d_p_is_integer.name d_p_is_integer.qual d_p_is_integer.params d_p_is_integer.body d_p_is_integer.scope .none kV doc pm an cdv ct) ⟨us, []⟩ = pure (List.zip P_p_is_integer us) := match us, hl with
  | [_], _ => rfl
theorem bn_p_is_tuple (kV doc pm : Value) (an : Option Addr) (cdv ct : Value) (us : List Value) (hl : us.length = P_p_is_tuple.length) : bindArgs (PySem.W.fnOf d_p_is_tuple.name d_p_is_tuple.qual d_p_is_tuple.params d_p_is_tuple.body d_p_is_tuple.scope .none kV doc pm an cdv ct) ⟨us, []⟩ = pure (List.zip P_p_is_tuple us) := match us, hl with
  | [_, _], _ => rfl
theorem bn_p_is_scheme_value (kV doc pm : Value) (an : Option Addr) (cdv ct : Value) (us : List Value) (hl : us.length = P_p_is_scheme_value.length) : bindArgs (PySem.W.fnOf d_p_is_scheme_value.name d_p_is_scheme_value.qual d_p_is_scheme_value.params d_p_is_scheme_value.body d_p_is_scheme_value.scope .none kV doc pm an cdv ct) ⟨us, []⟩ = pure (List.zip P_p_is_scheme_value us) := match us, hl with
  | [_], _ => rfl
theorem bn_p_need_scheme (kV doc pm : Value) (an : Option Addr) (cdv ct : Value) (us : List Value) (hl : us.length = P_p_need_scheme.length) : bindArgs (PySem.W.fnOf d_p_need_scheme.name d_p_need_scheme.qual d_p_need_scheme.params d_p_need_scheme.body d_p_need_scheme.scope .none kV doc pm an cdv ct) ⟨us, []⟩ = pure (List.zip P_p_need_scheme us) := match us, hl with
  | [_], _ => rfl
theorem bn_p_fraction (kV doc pm : Value) (an : Option Addr) (cdv ct : Value) (us : List Value) (hl : us.length = P_p_fraction.length) : bindArgs (PySem.W.fnOf d_p_fraction.name d_p_fraction.qual d_p_fraction.params d_p_fraction.body d_p_fraction.scope .none kV doc pm an cdv ct) ⟨us, []⟩ = pure (List.zip P_p_fraction us) := match us, hl with
  | [_, _], _ => rfl
theorem bn_p_is_scheme (kV doc pm : Value) (an : Option Addr) (cdv ct : Value) (us : List Value) (hl : us.length = P_p_is_scheme.length) : bindArgs (PySem.W.fnOf d_p_is_scheme.name d_p_is_scheme.qual d_p_is_scheme.params d_p_is_scheme.body d_p_is_scheme.scope .none kV doc pm an cdv ct) ⟨us, []⟩ = pure (List.zip P_p_is_scheme us) := match us, hl with
  | [_], _ => rfl
theorem bn_p_bound (kV doc pm : Value) (an : Option Addr) (cdv ct : Value) (us : List Value) (hl : us.length = P_p_bound.length) : bindArgs (PySem.W.fnOf d_p_bound.name d_p_bound.qual d_p_bound.params d_p_bound.body d_p_bound.scope .none kV doc pm an cdv ct) ⟨us, []⟩ = pure (List.zip P_p_bound us) := match us, hl with
  | [_], _ => rfl
theorem bn_law_deck (kV doc pm : Value) (an : Option Addr) (cdv ct : Value) (us : List Value) (hl : us.length = P_law_deck.length) : bindArgs (PySem.W.fnOf d_law_deck.name d_law_deck.qual d_law_deck.params d_law_deck.body d_law_deck.scope .none kV doc pm an cdv ct) ⟨us, []⟩ = pure (List.zip P_law_deck us) := match us, hl with
  | [_], _ => rfl
theorem bn_law_draw (kV doc pm : Value) (an : Option Addr) (cdv ct : Value) (us : List Value) (hl : us.length = P_law_draw.length) : bindArgs (PySem.W.fnOf d_law_draw.name d_law_draw.qual d_law_draw.params d_law_draw.body d_law_draw.scope .none kV doc pm an cdv ct) ⟨us, []⟩ = pure (List.zip P_law_draw us) := match us, hl with
  | [_, _], _ => rfl
theorem bn_law_pick_fa54 (kV doc pm : Value) (an : Option Addr) (cdv ct : Value) (us : List Value) (hl : us.length = P_law_pick_fa54.length) : bindArgs (PySem.W.fnOf d_law_pick_fa54.name d_law_pick_fa54.qual d_law_pick_fa54.params d_law_pick_fa54.body d_law_pick_fa54.scope .none kV doc pm an cdv ct) ⟨us, []⟩ = pure (List.zip P_law_pick_fa54 us) := match us, hl with
  | [_, _], _ => rfl
theorem bn_law_power (kV doc pm : Value) (an : Option Addr) (cdv ct : Value) (us : List Value) (hl : us.length = P_law_power.length) : bindArgs (PySem.W.fnOf d_law_power.name d_law_power.qual d_law_power.params d_law_power.body d_law_power.scope .none kV doc pm an cdv ct) ⟨us, []⟩ = pure (List.zip P_law_power us) := match us, hl with
  | [_, _], _ => rfl
theorem bn_law_two (kV doc pm : Value) (an : Option Addr) (cdv ct : Value) (us : List Value) (hl : us.length = P_law_two.length) : bindArgs (PySem.W.fnOf d_law_two.name d_law_two.qual d_law_two.params d_law_two.body d_law_two.scope .none kV doc pm an cdv ct) ⟨us, []⟩ = pure (List.zip P_law_two us) := match us, hl with
  | [_], _ => rfl
theorem bn_law_is_int_7e02 (kV doc pm : Value) (an : Option Addr) (cdv ct : Value) (us : List Value) (hl : us.length = P_law_is_int_7e02.length) : bindArgs (PySem.W.fnOf d_law_is_int_7e02.name d_law_is_int_7e02.qual d_law_is_int_7e02.params d_law_is_int_7e02.body d_law_is_int_7e02.scope .none kV doc pm an cdv ct) ⟨us, []⟩ = pure (List.zip P_law_is_int_7e02 us) := match us, hl with
  | [_], _ => rfl
theorem bn_law_is_tuple (kV doc pm : Value) (an : Option Addr) (cdv ct : Value) (us : List Value) (hl : us.length = P_law_is_tuple.length) : bindArgs (PySem.W.fnOf d_law_is_tuple.name d_law_is_tuple.qual d_law_is_tuple.params d_law_is_tuple.body d_law_is_tuple.scope .none kV doc pm an cdv ct) ⟨us, []⟩ = pure (List.zip P_law_is_tuple us) := match us, hl with
  | [_, _], _ => rfl
theorem bn_law_is_scheme_8282 (kV doc pm : Value) (an : Option Addr) (cdv ct : Value) (us : List Value) (hl : us.length = P_law_is_scheme_8282.length) : bindArgs (PySem.W.fnOf d_law_is_scheme_8282.name d_law_is_scheme_8282.qual d_law_is_scheme_8282.params d_law_is_scheme_8282.body d_law_is_scheme_8282.scope .none kV doc pm an cdv ct) ⟨us, []⟩ = pure (List.zip P_law_is_scheme_8282 us) := match us, hl with
  | [_], _ => rfl
theorem bn_law_bound (kV doc pm : Value) (an : Option Addr) (cdv ct : Value) (us : List Value) (hl : us.length = P_law_bound.length) : bindArgs (PySem.W.fnOf d_law_bound.name d_law_bound.qual d_law_bound.params d_law_bound.body d_law_bound.scope .none kV doc pm an cdv ct) ⟨us, []⟩ = pure (List.zip P_law_bound us) := match us, hl with
  | [_], _ => rfl
theorem bn_law_tried_a214 (kV doc pm : Value) (an : Option Addr) (cdv ct : Value) (us : List Value) (hl : us.length = P_law_tried_a214.length) : bindArgs (PySem.W.fnOf d_law_tried_a214.name d_law_tried_a214.qual d_law_tried_a214.params d_law_tried_a214.body d_law_tried_a214.scope .none kV doc pm an cdv ct) ⟨us, []⟩ = pure (List.zip P_law_tried_a214 us) := match us, hl with
  | [_], _ => rfl
theorem bn_law_any_56cc (kV doc pm : Value) (an : Option Addr) (cdv ct : Value) (us : List Value) (hl : us.length = P_law_any_56cc.length) : bindArgs (PySem.W.fnOf d_law_any_56cc.name d_law_any_56cc.qual d_law_any_56cc.params d_law_any_56cc.body d_law_any_56cc.scope .none kV doc pm an cdv ct) ⟨us, []⟩ = pure (List.zip P_law_any_56cc us) := match us, hl with
  | [_], _ => rfl
theorem bn_lawk00 (kV doc pm : Value) (an : Option Addr) (cdv ct : Value) (us : List Value) (hl : us.length = P_lawk00.length) : bindArgs (PySem.W.fnOf d_lawk00.name d_lawk00.qual d_lawk00.params d_lawk00.body d_lawk00.scope .none kV doc pm an cdv ct) ⟨us, []⟩ = pure (List.zip P_lawk00 us) := match us, hl with
  | [_], _ => rfl
theorem kw_p_is_scheme_0 (kV doc pr : Value) (an : Option Addr) (cdv ct : Value) (us : List Value) (hl : us.length = P_p_is_scheme.length) : bindArgs (PySem.W.fnOf d_p_is_scheme.name d_p_is_scheme.qual d_p_is_scheme.params d_p_is_scheme.body d_p_is_scheme.scope .none kV doc pr an cdv ct) ⟨[], List.zip ["thing"] us⟩ = pure (List.zip P_p_is_scheme (pick [0] us .none)) := match us, hl with
  | [_], _ => rfl
theorem kw_p_bound_1 (kV doc pr : Value) (an : Option Addr) (cdv ct : Value) (us : List Value) (hl : us.length = P_p_bound.length) : bindArgs (PySem.W.fnOf d_p_bound.name d_p_bound.qual d_p_bound.params d_p_bound.body d_p_bound.scope .none kV doc pr an cdv ct) ⟨[], List.zip ["scheme"] us⟩ = pure (List.zip P_p_bound (pick [0] us .none)) := match us, hl with
  | [_], _ => rfl
def mks : List Str := ["law"]
/-- the module's defs -/
structure Dx (K : PySem.W.Frag) (mg : Str → Option Value) : Prop where
  m_p_two : mg d_p_two.name = some (.ref (He.ga K "two"))
  f_p_two : ∃ fd, FunD K d_p_two.name d_p_two.qual d_p_two.params d_p_two.body d_p_two.scope [] [] (He.ga K "two") fd
  m_p_is_integer : mg d_p_is_integer.name = some (.ref (He.ga K "is_integer"))
  f_p_is_integer : ∃ fd, FunD K d_p_is_integer.name d_p_is_integer.qual d_p_is_integer.params d_p_is_integer.body d_p_is_integer.scope [] [] (He.ga K "is_integer") fd
  m_p_is_tuple : mg d_p_is_tuple.name = some (.ref (He.ga K "is_tuple"))
  f_p_is_tuple : ∃ fd, FunD K d_p_is_tuple.name d_p_is_tuple.qual d_p_is_tuple.params d_p_is_tuple.body d_p_is_tuple.scope [] [] (He.ga K "is_tuple") fd
  m_p_is_scheme_value : mg d_p_is_scheme_value.name = some (.ref (He.ga K "is_scheme_value"))
  f_p_is_scheme_value : ∃ fd, FunD K d_p_is_scheme_value.name d_p_is_scheme_value.qual d_p_is_scheme_value.params d_p_is_scheme_value.body d_p_is_scheme_value.scope [] [] (He.ga K "is_scheme_value") fd
  m_p_need_scheme : mg d_p_need_scheme.name = some (.ref (He.ga K "need_scheme"))
  f_p_need_scheme : ∃ fd, FunD K d_p_need_scheme.name d_p_need_scheme.qual d_p_need_scheme.params d_p_need_scheme.body d_p_need_scheme.scope [] [] (He.ga K "need_scheme") fd
  m_p_fraction : mg d_p_fraction.name = some (.ref (He.ga K "fraction"))
  f_p_fraction : ∃ fd, FunD K d_p_fraction.name d_p_fraction.qual d_p_fraction.params d_p_fraction.body d_p_fraction.scope [] [] (He.ga K "fraction") fd
  m_p_is_scheme : mg d_p_is_scheme.name = some (.ref (He.ga K "is_scheme"))
  f_p_is_scheme : ∃ fd, FunD K d_p_is_scheme.name d_p_is_scheme.qual d_p_is_scheme.params d_p_is_scheme.body d_p_is_scheme.scope [] [] (He.ga K "is_scheme") fd
  m_p_bound : mg d_p_bound.name = some (.ref (He.ga K "bound"))
  f_p_bound : ∃ fd, FunD K d_p_bound.name d_p_bound.qual d_p_bound.params d_p_bound.body d_p_bound.scope [] [] (He.ga K "bound") fd
  m_law_deck : mg d_law_deck.name = some (.ref (He.ga K "_law_deck"))
  f_law_deck : ∃ fd, FunD K d_law_deck.name d_law_deck.qual d_law_deck.params d_law_deck.body d_law_deck.scope [] [] (He.ga K "_law_deck") fd
  m_law_draw : mg d_law_draw.name = some (.ref (He.ga K "_law_draw"))
  f_law_draw : ∃ fd, FunD K d_law_draw.name d_law_draw.qual d_law_draw.params d_law_draw.body d_law_draw.scope [] [] (He.ga K "_law_draw") fd
  m_law_pick_fa54 : mg d_law_pick_fa54.name = some (.ref (He.ga K "_law_pick"))
  f_law_pick_fa54 : ∃ fd, FunD K d_law_pick_fa54.name d_law_pick_fa54.qual d_law_pick_fa54.params d_law_pick_fa54.body d_law_pick_fa54.scope [] [] (He.ga K "_law_pick") fd
  m_law_power : mg d_law_power.name = some (.ref (He.ga K "_law_power"))
  f_law_power : ∃ fd, FunD K d_law_power.name d_law_power.qual d_law_power.params d_law_power.body d_law_power.scope [] [] (He.ga K "_law_power") fd
  m_law_two : mg d_law_two.name = some (.ref (He.ga K "_law_two"))
  f_law_two : ∃ fd, FunD K d_law_two.name d_law_two.qual d_law_two.params d_law_two.body d_law_two.scope [] [] (He.ga K "_law_two") fd
  m_law_is_int_7e02 : mg d_law_is_int_7e02.name = some (.ref (He.ga K "_law_is_int"))
  f_law_is_int_7e02 : ∃ fd, FunD K d_law_is_int_7e02.name d_law_is_int_7e02.qual d_law_is_int_7e02.params d_law_is_int_7e02.body d_law_is_int_7e02.scope [] [] (He.ga K "_law_is_int") fd
  m_law_is_tuple : mg d_law_is_tuple.name = some (.ref (He.ga K "_law_is_tuple"))
  f_law_is_tuple : ∃ fd, FunD K d_law_is_tuple.name d_law_is_tuple.qual d_law_is_tuple.params d_law_is_tuple.body d_law_is_tuple.scope [] [] (He.ga K "_law_is_tuple") fd
  m_law_is_scheme_8282 : mg d_law_is_scheme_8282.name = some (.ref (He.ga K "_law_is_scheme"))
  f_law_is_scheme_8282 : ∃ fd, FunD K d_law_is_scheme_8282.name d_law_is_scheme_8282.qual d_law_is_scheme_8282.params d_law_is_scheme_8282.body d_law_is_scheme_8282.scope [] [] (He.ga K "_law_is_scheme") fd
  m_law_bound : mg d_law_bound.name = some (.ref (He.ga K "_law_bound"))
  f_law_bound : ∃ fd, FunD K d_law_bound.name d_law_bound.qual d_law_bound.params d_law_bound.body d_law_bound.scope [] [] (He.ga K "_law_bound") fd
  m_law_tried_a214 : mg d_law_tried_a214.name = some (.ref (He.ga K "_law_tried"))
  f_law_tried_a214 : ∃ fd, FunD K d_law_tried_a214.name d_law_tried_a214.qual d_law_tried_a214.params d_law_tried_a214.body d_law_tried_a214.scope [] [] (He.ga K "_law_tried") fd
  m_law_any_56cc : mg d_law_any_56cc.name = some (.ref (He.ga K "_law_any"))
  f_law_any_56cc : ∃ fd, FunD K d_law_any_56cc.name d_law_any_56cc.qual d_law_any_56cc.params d_law_any_56cc.body d_law_any_56cc.scope [] [] (He.ga K "_law_any") fd
  m_lawk00 : mg d_lawk00.name = some (.ref (He.ga K "law"))
  f_lawk00 : ∃ fd, FunD K d_lawk00.name d_lawk00.qual d_lawk00.params d_lawk00.body d_lawk00.scope [] [] (He.ga K "law") fd
theorem sc_p_two : FnScope N_p_two P_p_two d_p_two.scope := ⟨rfl, rfl, rfl, by decide +kernel, rfl, by decide +kernel, by decide +kernel⟩
theorem sc_p_is_integer : FnScope N_p_is_integer P_p_is_integer d_p_is_integer.scope := ⟨rfl, rfl, rfl, by decide +kernel, rfl, by decide +kernel, by decide +kernel⟩
theorem sc_p_is_tuple : FnScope N_p_is_tuple P_p_is_tuple d_p_is_tuple.scope := ⟨rfl, rfl, rfl, by decide +kernel, rfl, by decide +kernel, by decide +kernel⟩
theorem sc_p_is_scheme_value : FnScope N_p_is_scheme_value P_p_is_scheme_value d_p_is_scheme_value.scope := ⟨rfl, rfl, rfl, by decide +kernel, rfl, by decide +kernel, by decide +kernel⟩
theorem sc_p_need_scheme : FnScope N_p_need_scheme P_p_need_scheme d_p_need_scheme.scope := ⟨rfl, rfl, rfl, by decide +kernel, rfl, by decide +kernel, by decide +kernel⟩
theorem sc_p_fraction : FnScope N_p_fraction P_p_fraction d_p_fraction.scope := ⟨rfl, rfl, rfl, by decide +kernel, rfl, by decide +kernel, by decide +kernel⟩
theorem sc_p_is_scheme : FnScope N_p_is_scheme P_p_is_scheme d_p_is_scheme.scope := ⟨rfl, rfl, rfl, by decide +kernel, rfl, by decide +kernel, by decide +kernel⟩
theorem sc_p_bound : FnScope N_p_bound P_p_bound d_p_bound.scope := ⟨rfl, rfl, rfl, by decide +kernel, rfl, by decide +kernel, by decide +kernel⟩
theorem sc_law_deck : FnScope N_law_deck P_law_deck d_law_deck.scope := ⟨rfl, rfl, rfl, by decide +kernel, rfl, by decide +kernel, by decide +kernel⟩
theorem sc_law_draw : FnScope N_law_draw P_law_draw d_law_draw.scope := ⟨rfl, rfl, rfl, by decide +kernel, rfl, by decide +kernel, by decide +kernel⟩
theorem sc_law_pick_fa54 : FnScope N_law_pick_fa54 P_law_pick_fa54 d_law_pick_fa54.scope := ⟨rfl, rfl, rfl, by decide +kernel, rfl, by decide +kernel, by decide +kernel⟩
theorem sc_law_power : FnScope N_law_power P_law_power d_law_power.scope := ⟨rfl, rfl, rfl, by decide +kernel, rfl, by decide +kernel, by decide +kernel⟩
theorem sc_law_two : FnScope N_law_two P_law_two d_law_two.scope := ⟨rfl, rfl, rfl, by decide +kernel, rfl, by decide +kernel, by decide +kernel⟩
theorem sc_law_is_int_7e02 : FnScope N_law_is_int_7e02 P_law_is_int_7e02 d_law_is_int_7e02.scope := ⟨rfl, rfl, rfl, by decide +kernel, rfl, by decide +kernel, by decide +kernel⟩
theorem sc_law_is_tuple : FnScope N_law_is_tuple P_law_is_tuple d_law_is_tuple.scope := ⟨rfl, rfl, rfl, by decide +kernel, rfl, by decide +kernel, by decide +kernel⟩
theorem sc_law_is_scheme_8282 : FnScope N_law_is_scheme_8282 P_law_is_scheme_8282 d_law_is_scheme_8282.scope := ⟨rfl, rfl, rfl, by decide +kernel, rfl, by decide +kernel, by decide +kernel⟩
theorem sc_law_bound : FnScope N_law_bound P_law_bound d_law_bound.scope := ⟨rfl, rfl, rfl, by decide +kernel, rfl, by decide +kernel, by decide +kernel⟩
theorem sc_law_tried_a214 : FnScope N_law_tried_a214 P_law_tried_a214 d_law_tried_a214.scope := ⟨rfl, rfl, rfl, by decide +kernel, rfl, by decide +kernel, by decide +kernel⟩
theorem sc_law_any_56cc : FnScope N_law_any_56cc P_law_any_56cc d_law_any_56cc.scope := ⟨rfl, rfl, rfl, by decide +kernel, rfl, by decide +kernel, by decide +kernel⟩
theorem sc_lawk00 : FnScope N_lawk00 P_lawk00 d_lawk00.scope := ⟨rfl, rfl, rfl, by decide +kernel, rfl, by decide +kernel, by decide +kernel⟩
section
variable {V0 : Ev} {P : Program} {w : World} {mg : Str → Option Value} {base : Heap} {fa : Addr} {cd : Value} {B : Around} {fr : List Env} {s : Shared} {H : Hp} {E : XK} {n : Nat}
theorem b_p_two (M : Mg V0.K V0.G.glob mg) (Kx : Kl V0.K V0.cl.at_ V0.fld V0.G.sub P mg) (T : Tb V0.K V0.cl V0.fld P w mg base (n + 1) V0.G.phi) (C : Cq V0 (fun c x _ H => E c x H) (cxOf (L2.CX P w) P w V0.K mg base N_p_two d_p_two.qual d_p_two.scope fa cd B fr s H E) (n + 1)) (hp : PassesOwn (model P w) (cxOf (L2.CX P w) P w V0.K mg base N_p_two d_p_two.qual d_p_two.scope fa cd B fr s H E).A (cxOf (L2.CX P w) P w V0.K mg base N_p_two d_p_two.qual d_p_two.scope fa cd B fr s H E).env (cxOf (L2.CX P w) P w V0.K mg base N_p_two d_p_two.qual d_p_two.scope fa cd B fr s H E).xe) (hex : V0.cl.ex = none) : PSs (cxOf (L2.CX P w) P w V0.K mg base N_p_two d_p_two.qual d_p_two.scope fa cd B fr s H E) d_p_two.body (tSs V0 (fun c x _ H => E c x H) i_p_two) :=
  ss_cons (s_ret (se_bop C.K (ci) (nm 0))) (ss_nil)
theorem b_p_is_integer (M : Mg V0.K V0.G.glob mg) (Kx : Kl V0.K V0.cl.at_ V0.fld V0.G.sub P mg) (T : Tb V0.K V0.cl V0.fld P w mg base (n + 1) V0.G.phi) (C : Cq V0 (fun c x _ H => E c x H) (cxOf (L2.CX P w) P w V0.K mg base N_p_is_integer d_p_is_integer.qual d_p_is_integer.scope fa cd B fr s H E) (n + 1)) (hp : PassesOwn (model P w) (cxOf (L2.CX P w) P w V0.K mg base N_p_is_integer d_p_is_integer.qual d_p_is_integer.scope fa cd B fr s H E).A (cxOf (L2.CX P w) P w V0.K mg base N_p_is_integer d_p_is_integer.qual d_p_is_integer.scope fa cd B fr s H E).env (cxOf (L2.CX P w) P w V0.K mg base N_p_is_integer d_p_is_integer.qual d_p_is_integer.scope fa cd B fr s H E).xe) (hex : V0.cl.ex = none) : PSs (cxOf (L2.CX P w) P w V0.K mg base N_p_is_integer d_p_is_integer.qual d_p_is_integer.scope fa cd B fr s H E) d_p_is_integer.body (tSs V0 (fun c x _ H => E c x H) i_p_is_integer) :=
  ss_cons (s_ret ((sand (isi C (by decide +kernel) M.n_int M.n_isinstance (nm 0)) (se_one (se_not (isi C (by decide +kernel) M.n_bool M.n_isinstance (nm 0))))).1)) (ss_nil)
theorem b_p_is_tuple (M : Mg V0.K V0.G.glob mg) (Kx : Kl V0.K V0.cl.at_ V0.fld V0.G.sub P mg) (T : Tb V0.K V0.cl V0.fld P w mg base (n + 1) V0.G.phi) (C : Cq V0 (fun c x _ H => E c x H) (cxOf (L2.CX P w) P w V0.K mg base N_p_is_tuple d_p_is_tuple.qual d_p_is_tuple.scope fa cd B fr s H E) (n + 1)) (hp : PassesOwn (model P w) (cxOf (L2.CX P w) P w V0.K mg base N_p_is_tuple d_p_is_tuple.qual d_p_is_tuple.scope fa cd B fr s H E).A (cxOf (L2.CX P w) P w V0.K mg base N_p_is_tuple d_p_is_tuple.qual d_p_is_tuple.scope fa cd B fr s H E).env (cxOf (L2.CX P w) P w V0.K mg base N_p_is_tuple d_p_is_tuple.qual d_p_is_tuple.scope fa cd B fr s H E).xe) (hex : V0.cl.ex = none) : PSs (cxOf (L2.CX P w) P w V0.K mg base N_p_is_tuple d_p_is_tuple.qual d_p_is_tuple.scope fa cd B fr s H E) d_p_is_tuple.body (tSs V0 (fun c x _ H => E c x H) i_p_is_tuple) :=
  ss_cons (s_ret ((sand (isi C (by decide +kernel) M.n_tuple M.n_isinstance (nm 0)) (se_one (cmp C (bfn C rfl (by decide +kernel) M.n_len (pads_cons (nm 0) (pads_nil))) (nm 1)))).1)) (ss_nil)
theorem b_p_is_scheme_value (M : Mg V0.K V0.G.glob mg) (Kx : Kl V0.K V0.cl.at_ V0.fld V0.G.sub P mg) (T : Tb V0.K V0.cl V0.fld P w mg base (n + 1) V0.G.phi) (C : Cq V0 (fun c x _ H => E c x H) (cxOf (L2.CX P w) P w V0.K mg base N_p_is_scheme_value d_p_is_scheme_value.qual d_p_is_scheme_value.scope fa cd B fr s H E) (n + 1)) (hp : PassesOwn (model P w) (cxOf (L2.CX P w) P w V0.K mg base N_p_is_scheme_value d_p_is_scheme_value.qual d_p_is_scheme_value.scope fa cd B fr s H E).A (cxOf (L2.CX P w) P w V0.K mg base N_p_is_scheme_value d_p_is_scheme_value.qual d_p_is_scheme_value.scope fa cd B fr s H E).env (cxOf (L2.CX P w) P w V0.K mg base N_p_is_scheme_value d_p_is_scheme_value.qual d_p_is_scheme_value.scope fa cd B fr s H E).xe) (hex : V0.cl.ex = none) : PSs (cxOf (L2.CX P w) P w V0.K mg base N_p_is_scheme_value d_p_is_scheme_value.qual d_p_is_scheme_value.scope fa cd B fr s H E) d_p_is_scheme_value.body (tSs V0 (fun c x _ H => E c x H) i_p_is_scheme_value) :=
  ss_cons (s_if ((sor (se_not (cal C T.p_is_tuple bn_p_is_tuple (pas_cons (nm 0) (pas_cons (ci) (pas_nil))))) (sor (se_not (cal C T.p_is_integer bn_p_is_integer (pas_cons (ix C.K (nm 0) (ci)) (pas_nil)))) (sor (se_not (cal C T.p_is_integer bn_p_is_integer (pas_cons (ix C.K (nm 0) (ci)) (pas_nil)))) (se_one (se_not (chn C (ci) (ix C.K (nm 0) (ci)) (ci))))))).1) (ss_cons (s_ret (cb)) (ss_nil)) (ss_nil)) (ss_cons (s_ret (chn C (cal C T.p_two bn_p_two (pas_cons (se_bop C.K (ix C.K (nm 0) (ci)) (ci)) (pas_nil))) (ix C.K (nm 0) (ci)) (cal C T.p_two bn_p_two (pas_cons (ix C.K (nm 0) (ci)) (pas_nil))))) (ss_nil))
theorem b_p_need_scheme (M : Mg V0.K V0.G.glob mg) (Kx : Kl V0.K V0.cl.at_ V0.fld V0.G.sub P mg) (T : Tb V0.K V0.cl V0.fld P w mg base (n + 1) V0.G.phi) (C : Cq V0 (fun c x _ H => E c x H) (cxOf (L2.CX P w) P w V0.K mg base N_p_need_scheme d_p_need_scheme.qual d_p_need_scheme.scope fa cd B fr s H E) (n + 1)) (hp : PassesOwn (model P w) (cxOf (L2.CX P w) P w V0.K mg base N_p_need_scheme d_p_need_scheme.qual d_p_need_scheme.scope fa cd B fr s H E).A (cxOf (L2.CX P w) P w V0.K mg base N_p_need_scheme d_p_need_scheme.qual d_p_need_scheme.scope fa cd B fr s H E).env (cxOf (L2.CX P w) P w V0.K mg base N_p_need_scheme d_p_need_scheme.qual d_p_need_scheme.scope fa cd B fr s H E).xe) (hex : V0.cl.ex = none) : PSs (cxOf (L2.CX P w) P w V0.K mg base N_p_need_scheme d_p_need_scheme.qual d_p_need_scheme.scope fa cd B fr s H E) d_p_need_scheme.body (tSs V0 (fun c x _ H => E c x H) i_p_need_scheme) :=
  ss_cons (s_if (se_not (cal C T.p_is_scheme_value bn_p_is_scheme_value (pas_cons (nm 0) (pas_nil)))) (ss_cons (s_raise C Kx.xc_BadScheme Kx.xb_BadScheme Kx.xf_BadScheme M.n_super Kx.top Kx.m_BadScheme (nm 0)) (ss_nil)) (ss_nil)) (ss_nil)
theorem b_p_fraction (M : Mg V0.K V0.G.glob mg) (Kx : Kl V0.K V0.cl.at_ V0.fld V0.G.sub P mg) (T : Tb V0.K V0.cl V0.fld P w mg base (n + 1) V0.G.phi) (C : Cq V0 (fun c x _ H => E c x H) (cxOf (L2.CX P w) P w V0.K mg base N_p_fraction d_p_fraction.qual d_p_fraction.scope fa cd B fr s H E) (n + 1)) (hp : PassesOwn (model P w) (cxOf (L2.CX P w) P w V0.K mg base N_p_fraction d_p_fraction.qual d_p_fraction.scope fa cd B fr s H E).A (cxOf (L2.CX P w) P w V0.K mg base N_p_fraction d_p_fraction.qual d_p_fraction.scope fa cd B fr s H E).env (cxOf (L2.CX P w) P w V0.K mg base N_p_fraction d_p_fraction.qual d_p_fraction.scope fa cd B fr s H E).xe) (hex : V0.cl.ex = none) : PSs (cxOf (L2.CX P w) P w V0.K mg base N_p_fraction d_p_fraction.qual d_p_fraction.scope fa cd B fr s H E) d_p_fraction.body (tSs V0 (fun c x _ H => E c x H) i_p_fraction) :=
  ss_cons (asg C (se_bltm (x := "gcd") C rfl rfl M.m_gcd (pads_cons (nm 0) (pads_cons (nm 1) (pads_nil))))) (ss_cons (s_ret (se_tup (pax_cons (se_bop C.K (nm 0) (nm 2)) (pax_cons (se_bop C.K (nm 1) (nm 2)) (pax_nil))))) (ss_nil))
theorem b_p_is_scheme (M : Mg V0.K V0.G.glob mg) (Kx : Kl V0.K V0.cl.at_ V0.fld V0.G.sub P mg) (T : Tb V0.K V0.cl V0.fld P w mg base (n + 1) V0.G.phi) (C : Cq V0 (fun c x _ H => E c x H) (cxOf (L2.CX P w) P w V0.K mg base N_p_is_scheme d_p_is_scheme.qual d_p_is_scheme.scope fa cd B fr s H E) (n + 1)) (hp : PassesOwn (model P w) (cxOf (L2.CX P w) P w V0.K mg base N_p_is_scheme d_p_is_scheme.qual d_p_is_scheme.scope fa cd B fr s H E).A (cxOf (L2.CX P w) P w V0.K mg base N_p_is_scheme d_p_is_scheme.qual d_p_is_scheme.scope fa cd B fr s H E).env (cxOf (L2.CX P w) P w V0.K mg base N_p_is_scheme d_p_is_scheme.qual d_p_is_scheme.scope fa cd B fr s H E).xe) (hex : V0.cl.ex = none) : PSs (cxOf (L2.CX P w) P w V0.K mg base N_p_is_scheme d_p_is_scheme.qual d_p_is_scheme.scope fa cd B fr s H E) d_p_is_scheme.body (tSs V0 (fun c x _ H => E c x H) i_p_is_scheme) :=
  ss_cons (s_ret (cal C T.p_is_scheme_value bn_p_is_scheme_value (pas_cons (nm 0) (pas_nil)))) (ss_nil)
theorem b_p_bound (M : Mg V0.K V0.G.glob mg) (Kx : Kl V0.K V0.cl.at_ V0.fld V0.G.sub P mg) (T : Tb V0.K V0.cl V0.fld P w mg base (n + 1) V0.G.phi) (C : Cq V0 (fun c x _ H => E c x H) (cxOf (L2.CX P w) P w V0.K mg base N_p_bound d_p_bound.qual d_p_bound.scope fa cd B fr s H E) (n + 1)) (hp : PassesOwn (model P w) (cxOf (L2.CX P w) P w V0.K mg base N_p_bound d_p_bound.qual d_p_bound.scope fa cd B fr s H E).A (cxOf (L2.CX P w) P w V0.K mg base N_p_bound d_p_bound.qual d_p_bound.scope fa cd B fr s H E).env (cxOf (L2.CX P w) P w V0.K mg base N_p_bound d_p_bound.qual d_p_bound.scope fa cd B fr s H E).xe) (hex : V0.cl.ex = none) : PSs (cxOf (L2.CX P w) P w V0.K mg base N_p_bound d_p_bound.qual d_p_bound.scope fa cd B fr s H E) d_p_bound.body (tSs V0 (fun c x _ H => E c x H) i_p_bound) :=
  ss_cons (s_ex (cal C T.p_need_scheme bn_p_need_scheme (pas_cons (nm 0) (pas_nil)))) (ss_cons (s_ret (cal C T.p_fraction bn_p_fraction (pas_cons (ix C.K (nm 0) (ci)) (pas_cons (se_bop C.K (cal C T.p_two bn_p_two (pas_cons (ix C.K (nm 0) (ci)) (pas_nil))) (ci)) (pas_nil))))) (ss_nil))
theorem b_law_deck (M : Mg V0.K V0.G.glob mg) (Kx : Kl V0.K V0.cl.at_ V0.fld V0.G.sub P mg) (T : Tb V0.K V0.cl V0.fld P w mg base (n + 1) V0.G.phi) (C : Cq V0 (fun c x _ H => E c x H) (cxOf (L2.CX P w) P w V0.K mg base N_law_deck d_law_deck.qual d_law_deck.scope fa cd B fr s H E) (n + 1)) (hp : PassesOwn (model P w) (cxOf (L2.CX P w) P w V0.K mg base N_law_deck d_law_deck.qual d_law_deck.scope fa cd B fr s H E).A (cxOf (L2.CX P w) P w V0.K mg base N_law_deck d_law_deck.qual d_law_deck.scope fa cd B fr s H E).env (cxOf (L2.CX P w) P w V0.K mg base N_law_deck d_law_deck.qual d_law_deck.scope fa cd B fr s H E).xe) (hex : V0.cl.ex = none) : PSs (cxOf (L2.CX P w) P w V0.K mg base N_law_deck d_law_deck.qual d_law_deck.scope fa cd B fr s H E) d_law_deck.body (tSs V0 (fun c x _ H => E c x H) i_law_deck) :=
  ss_cons (asg C (ci)) (ss_cons (s_for hp C.calm (si_seq C.K (se_slice C.K (nm 0) so_none (so_some (ci)))) (tgn C) (ss_cons (asg C (se_bop C.K (bty C rfl (by decide +kernel) M.n_int (pads_cons (se_bop C.K (se_bop C.K (se_bop C.K (nm 1) (ci)) (se_bop C.K (bty C rfl (by decide +kernel) M.n_int (pads_cons (nm 2) (pads_nil))) (ci))) (ci)) (pads_nil))) (ci))) (ss_nil))) (ss_cons (s_dkRet rfl rfl (pf_revl C.K (bty C rfl (by decide +kernel) M.n_list (pads_cons (se_slice C.K (nm 0) so_none (so_some (ci))) (pads_nil)))) (nm 1) (ci)) (ss_nil)))
theorem b_law_draw (M : Mg V0.K V0.G.glob mg) (Kx : Kl V0.K V0.cl.at_ V0.fld V0.G.sub P mg) (T : Tb V0.K V0.cl V0.fld P w mg base (n + 1) V0.G.phi) (C : Cq V0 (fun c x _ H => E c x H) (cxOf (L2.CX P w) P w V0.K mg base N_law_draw d_law_draw.qual d_law_draw.scope fa cd B fr s H E) (n + 1)) (hp : PassesOwn (model P w) (cxOf (L2.CX P w) P w V0.K mg base N_law_draw d_law_draw.qual d_law_draw.scope fa cd B fr s H E).A (cxOf (L2.CX P w) P w V0.K mg base N_law_draw d_law_draw.qual d_law_draw.scope fa cd B fr s H E).env (cxOf (L2.CX P w) P w V0.K mg base N_law_draw d_law_draw.qual d_law_draw.scope fa cd B fr s H E).xe) (hex : V0.cl.ex = none) : PSs (cxOf (L2.CX P w) P w V0.K mg base N_law_draw d_law_draw.qual d_law_draw.scope fa cd B fr s H E) d_law_draw.body (tSs V0 (fun c x _ H => E c x H) i_law_draw) :=
  ss_cons (s_dkSet C (pv' 0) (se_bop C.K (se_dkGet C (pv' 0)) (ci))) (ss_cons (asg C (se_bop C.K (se_dkGet C (pv' 0)) (se_bop C.K (ci) (se_dkGet C (pv' 0))))) (ss_cons (s_if (se_dkNe C (pv' 0)) (ss_cons (s_dkPop C rfl (loc_ok rfl) (.inl rfl) (pv' 0)) (ss_cons (s_if (cmp C (nm 3) (se_bop C.K (ci) (ci))) (ss_cons (s_dkApp C (pv' 0) (se_bop C.K (nm 3) (bfn C rfl (by decide +kernel) M.n_max (pads_cons (ci) (pads_cons (nm 1) (pads_nil)))))) (ss_cons (s_ret (se_bop C.K (bty C rfl (by decide +kernel) M.n_int (pads_cons (nm 3) (pads_nil))) (nm 1))) (ss_nil))) (ss_nil)) (ss_cons (asg C (se_bop C.K (nm 2) (se_bop C.K (bty C rfl (by decide +kernel) M.n_int (pads_cons (nm 3) (pads_nil))) (ci)))) (ss_nil)))) (ss_nil)) (ss_cons (asg C (se_bop C.K (bty C rfl (by decide +kernel) M.n_int (pads_cons (se_bop C.K (se_bop C.K (nm 2) (ci)) (ci)) (pads_nil))) (ci))) (ss_cons (asg C (se_bop C.K (bty C rfl (by decide +kernel) M.n_int (pads_cons (se_bop C.K (se_bop C.K (se_bop C.K (nm 2) (nm 2)) (se_bop C.K (ci) (se_dkGet C (pv' 0)))) (ci)) (pads_nil))) (ci))) (ss_cons (asg C (se_bop C.K (bty C rfl (by decide +kernel) M.n_int (pads_cons (se_bop C.K (nm 2) (ci)) (pads_nil))) (ci))) (ss_cons (s_ret (se_bop C.K (bty C rfl (by decide +kernel) M.n_int (pads_cons (se_bop C.K (nm 2) (ci)) (pads_nil))) (nm 1))) (ss_nil)))))))
theorem b_law_pick_fa54 (M : Mg V0.K V0.G.glob mg) (Kx : Kl V0.K V0.cl.at_ V0.fld V0.G.sub P mg) (T : Tb V0.K V0.cl V0.fld P w mg base (n + 1) V0.G.phi) (C : Cq V0 (fun c x _ H => E c x H) (cxOf (L2.CX P w) P w V0.K mg base N_law_pick_fa54 d_law_pick_fa54.qual d_law_pick_fa54.scope fa cd B fr s H E) (n + 1)) (hp : PassesOwn (model P w) (cxOf (L2.CX P w) P w V0.K mg base N_law_pick_fa54 d_law_pick_fa54.qual d_law_pick_fa54.scope fa cd B fr s H E).A (cxOf (L2.CX P w) P w V0.K mg base N_law_pick_fa54 d_law_pick_fa54.qual d_law_pick_fa54.scope fa cd B fr s H E).env (cxOf (L2.CX P w) P w V0.K mg base N_law_pick_fa54 d_law_pick_fa54.qual d_law_pick_fa54.scope fa cd B fr s H E).xe) (hex : V0.cl.ex = none) : PSs (cxOf (L2.CX P w) P w V0.K mg base N_law_pick_fa54 d_law_pick_fa54.qual d_law_pick_fa54.scope fa cd B fr s H E) d_law_pick_fa54.body (tSs V0 (fun c x _ H => E c x H) i_law_pick_fa54) :=
  ss_cons (s_ret (ix C.K (nm 1) (cal C T.law_draw bn_law_draw (pas_cons (nm 0) (pas_cons (bfn C rfl (by decide +kernel) M.n_len (pads_cons (nm 1) (pads_nil))) (pas_nil)))))) (ss_nil)
theorem b_law_power (M : Mg V0.K V0.G.glob mg) (Kx : Kl V0.K V0.cl.at_ V0.fld V0.G.sub P mg) (T : Tb V0.K V0.cl V0.fld P w mg base (n + 1) V0.G.phi) (C : Cq V0 (fun c x _ H => E c x H) (cxOf (L2.CX P w) P w V0.K mg base N_law_power d_law_power.qual d_law_power.scope fa cd B fr s H E) (n + 1)) (hp : PassesOwn (model P w) (cxOf (L2.CX P w) P w V0.K mg base N_law_power d_law_power.qual d_law_power.scope fa cd B fr s H E).A (cxOf (L2.CX P w) P w V0.K mg base N_law_power d_law_power.qual d_law_power.scope fa cd B fr s H E).env (cxOf (L2.CX P w) P w V0.K mg base N_law_power d_law_power.qual d_law_power.scope fa cd B fr s H E).xe) (hex : V0.cl.ex = none) : PSs (cxOf (L2.CX P w) P w V0.K mg base N_law_power d_law_power.qual d_law_power.scope fa cd B fr s H E) d_law_power.body (tSs V0 (fun c x _ H => E c x H) i_law_power) :=
  ss_cons (asg C (ci)) (ss_cons (s_for hp C.calm (si_rng1 rfl M.n_range (nm 1)) (tgn C) (ss_cons (asg C (se_bop C.K (nm 2) (nm 0))) (ss_nil))) (ss_cons (s_ret (nm 2)) (ss_nil)))
theorem b_law_two (M : Mg V0.K V0.G.glob mg) (Kx : Kl V0.K V0.cl.at_ V0.fld V0.G.sub P mg) (T : Tb V0.K V0.cl V0.fld P w mg base (n + 1) V0.G.phi) (C : Cq V0 (fun c x _ H => E c x H) (cxOf (L2.CX P w) P w V0.K mg base N_law_two d_law_two.qual d_law_two.scope fa cd B fr s H E) (n + 1)) (hp : PassesOwn (model P w) (cxOf (L2.CX P w) P w V0.K mg base N_law_two d_law_two.qual d_law_two.scope fa cd B fr s H E).A (cxOf (L2.CX P w) P w V0.K mg base N_law_two d_law_two.qual d_law_two.scope fa cd B fr s H E).env (cxOf (L2.CX P w) P w V0.K mg base N_law_two d_law_two.qual d_law_two.scope fa cd B fr s H E).xe) (hex : V0.cl.ex = none) : PSs (cxOf (L2.CX P w) P w V0.K mg base N_law_two d_law_two.qual d_law_two.scope fa cd B fr s H E) d_law_two.body (tSs V0 (fun c x _ H => E c x H) i_law_two) :=
  ss_cons (s_ret (cal C T.law_power bn_law_power (pas_cons (ci) (pas_cons (nm 0) (pas_nil))))) (ss_nil)
theorem b_law_is_int_7e02 (M : Mg V0.K V0.G.glob mg) (Kx : Kl V0.K V0.cl.at_ V0.fld V0.G.sub P mg) (T : Tb V0.K V0.cl V0.fld P w mg base (n + 1) V0.G.phi) (C : Cq V0 (fun c x _ H => E c x H) (cxOf (L2.CX P w) P w V0.K mg base N_law_is_int_7e02 d_law_is_int_7e02.qual d_law_is_int_7e02.scope fa cd B fr s H E) (n + 1)) (hp : PassesOwn (model P w) (cxOf (L2.CX P w) P w V0.K mg base N_law_is_int_7e02 d_law_is_int_7e02.qual d_law_is_int_7e02.scope fa cd B fr s H E).A (cxOf (L2.CX P w) P w V0.K mg base N_law_is_int_7e02 d_law_is_int_7e02.qual d_law_is_int_7e02.scope fa cd B fr s H E).env (cxOf (L2.CX P w) P w V0.K mg base N_law_is_int_7e02 d_law_is_int_7e02.qual d_law_is_int_7e02.scope fa cd B fr s H E).xe) (hex : V0.cl.ex = none) : PSs (cxOf (L2.CX P w) P w V0.K mg base N_law_is_int_7e02 d_law_is_int_7e02.qual d_law_is_int_7e02.scope fa cd B fr s H E) d_law_is_int_7e02.body (tSs V0 (fun c x _ H => E c x H) i_law_is_int_7e02) :=
  ss_cons (s_ret ((sand (isi C (by decide +kernel) M.n_int M.n_isinstance (nm 0)) (se_one (se_not (isi C (by decide +kernel) M.n_bool M.n_isinstance (nm 0))))).1)) (ss_nil)
theorem b_law_is_tuple (M : Mg V0.K V0.G.glob mg) (Kx : Kl V0.K V0.cl.at_ V0.fld V0.G.sub P mg) (T : Tb V0.K V0.cl V0.fld P w mg base (n + 1) V0.G.phi) (C : Cq V0 (fun c x _ H => E c x H) (cxOf (L2.CX P w) P w V0.K mg base N_law_is_tuple d_law_is_tuple.qual d_law_is_tuple.scope fa cd B fr s H E) (n + 1)) (hp : PassesOwn (model P w) (cxOf (L2.CX P w) P w V0.K mg base N_law_is_tuple d_law_is_tuple.qual d_law_is_tuple.scope fa cd B fr s H E).A (cxOf (L2.CX P w) P w V0.K mg base N_law_is_tuple d_law_is_tuple.qual d_law_is_tuple.scope fa cd B fr s H E).env (cxOf (L2.CX P w) P w V0.K mg base N_law_is_tuple d_law_is_tuple.qual d_law_is_tuple.scope fa cd B fr s H E).xe) (hex : V0.cl.ex = none) : PSs (cxOf (L2.CX P w) P w V0.K mg base N_law_is_tuple d_law_is_tuple.qual d_law_is_tuple.scope fa cd B fr s H E) d_law_is_tuple.body (tSs V0 (fun c x _ H => E c x H) i_law_is_tuple) :=
  ss_cons (s_ret ((sand (isi C (by decide +kernel) M.n_tuple M.n_isinstance (nm 0)) (se_one (cmp C (bfn C rfl (by decide +kernel) M.n_len (pads_cons (nm 0) (pads_nil))) (nm 1)))).1)) (ss_nil)
theorem b_law_is_scheme_8282 (M : Mg V0.K V0.G.glob mg) (Kx : Kl V0.K V0.cl.at_ V0.fld V0.G.sub P mg) (T : Tb V0.K V0.cl V0.fld P w mg base (n + 1) V0.G.phi) (C : Cq V0 (fun c x _ H => E c x H) (cxOf (L2.CX P w) P w V0.K mg base N_law_is_scheme_8282 d_law_is_scheme_8282.qual d_law_is_scheme_8282.scope fa cd B fr s H E) (n + 1)) (hp : PassesOwn (model P w) (cxOf (L2.CX P w) P w V0.K mg base N_law_is_scheme_8282 d_law_is_scheme_8282.qual d_law_is_scheme_8282.scope fa cd B fr s H E).A (cxOf (L2.CX P w) P w V0.K mg base N_law_is_scheme_8282 d_law_is_scheme_8282.qual d_law_is_scheme_8282.scope fa cd B fr s H E).env (cxOf (L2.CX P w) P w V0.K mg base N_law_is_scheme_8282 d_law_is_scheme_8282.qual d_law_is_scheme_8282.scope fa cd B fr s H E).xe) (hex : V0.cl.ex = none) : PSs (cxOf (L2.CX P w) P w V0.K mg base N_law_is_scheme_8282 d_law_is_scheme_8282.qual d_law_is_scheme_8282.scope fa cd B fr s H E) d_law_is_scheme_8282.body (tSs V0 (fun c x _ H => E c x H) i_law_is_scheme_8282) :=
  ss_cons (s_if ((sor (se_not (cal C T.law_is_tuple bn_law_is_tuple (pas_cons (nm 0) (pas_cons (ci) (pas_nil))))) (sor (se_not (cal C T.law_is_int_7e02 bn_law_is_int_7e02 (pas_cons (ix C.K (nm 0) (ci)) (pas_nil)))) (sor (se_not (cal C T.law_is_int_7e02 bn_law_is_int_7e02 (pas_cons (ix C.K (nm 0) (ci)) (pas_nil)))) (se_one (se_not (chn C (ci) (ix C.K (nm 0) (ci)) (ci))))))).1) (ss_cons (s_ret (cb)) (ss_nil)) (ss_nil)) (ss_cons (s_ret ((sand (cmp C (cal C T.law_two bn_law_two (pas_cons (ix C.K (nm 0) (ci)) (pas_nil))) (se_bop C.K (ci) (ix C.K (nm 0) (ci)))) (se_one (cmp C (ix C.K (nm 0) (ci)) (se_bop C.K (cal C T.law_two bn_law_two (pas_cons (ix C.K (nm 0) (ci)) (pas_nil))) (ci))))).1)) (ss_nil))
theorem b_law_bound (M : Mg V0.K V0.G.glob mg) (Kx : Kl V0.K V0.cl.at_ V0.fld V0.G.sub P mg) (T : Tb V0.K V0.cl V0.fld P w mg base (n + 1) V0.G.phi) (C : Cq V0 (fun c x _ H => E c x H) (cxOf (L2.CX P w) P w V0.K mg base N_law_bound d_law_bound.qual d_law_bound.scope fa cd B fr s H E) (n + 1)) (hp : PassesOwn (model P w) (cxOf (L2.CX P w) P w V0.K mg base N_law_bound d_law_bound.qual d_law_bound.scope fa cd B fr s H E).A (cxOf (L2.CX P w) P w V0.K mg base N_law_bound d_law_bound.qual d_law_bound.scope fa cd B fr s H E).env (cxOf (L2.CX P w) P w V0.K mg base N_law_bound d_law_bound.qual d_law_bound.scope fa cd B fr s H E).xe) (hex : V0.cl.ex = none) : PSs (cxOf (L2.CX P w) P w V0.K mg base N_law_bound d_law_bound.qual d_law_bound.scope fa cd B fr s H E) d_law_bound.body (tSs V0 (fun c x _ H => E c x H) i_law_bound) :=
  ss_cons (s_par2 C.calm C.nd rfl rfl (by decide) rfl rfl (pis_cons (o := false) ((ix C.K (nm 0) (ci)).pe) (pis_cons (o := false) ((se_bop C.K (cal C T.law_two bn_law_two (pas_cons (ix C.K (nm 0) (ci)) (pas_nil))) (ci)).pe) (pis_nil))) (by rfl)) (ss_cons (s_for hp C.calm (si_seq C.K (se_tup (pax_cons (ci) (pax_cons (ci) (pax_cons (ci) (pax_cons (ci) (pax_nil))))))) (tgn C) (ss_cons (s_if ((sand (cmp C (se_bop C.K (bty C rfl (by decide +kernel) M.n_int (pads_cons (nm 1) (pads_nil))) (nm 3)) (ci)) (se_one (cmp C (se_bop C.K (bty C rfl (by decide +kernel) M.n_int (pads_cons (nm 2) (pads_nil))) (nm 3)) (ci)))).1) (ss_cons (s_par2 C.calm C.nd rfl rfl (by decide) rfl rfl (pis_cons (o := false) ((se_bop C.K (nm 1) (nm 3)).pe) (pis_cons (o := false) ((se_bop C.K (nm 2) (nm 3)).pe) (pis_nil))) (by rfl)) (ss_nil)) (ss_nil)) (ss_nil))) (ss_cons (s_ret (se_tup (pax_cons (nm 1) (pax_cons (nm 2) (pax_nil))))) (ss_nil)))
theorem b_law_tried_a214 (M : Mg V0.K V0.G.glob mg) (Kx : Kl V0.K V0.cl.at_ V0.fld V0.G.sub P mg) (C : Cq V0 (fun c x _ H => E c x H) (cxOf (L2.CX P w) P w V0.K mg base N_law_tried_a214 d_law_tried_a214.qual d_law_tried_a214.scope fa cd B fr s H E) (n + 1)) (hp : PassesOwn (model P w) (cxOf (L2.CX P w) P w V0.K mg base N_law_tried_a214 d_law_tried_a214.qual d_law_tried_a214.scope fa cd B fr s H E).A (cxOf (L2.CX P w) P w V0.K mg base N_law_tried_a214 d_law_tried_a214.qual d_law_tried_a214.scope fa cd B fr s H E).env (cxOf (L2.CX P w) P w V0.K mg base N_law_tried_a214 d_law_tried_a214.qual d_law_tried_a214.scope fa cd B fr s H E).xe) (hex : V0.cl.ex = none) (hcall : ∀ (W : WX) (pn : List (Addr × Obj)) (xe : Value → Shared → Prop) (p1 p2 : Pos), Takes ((cxOf (L2.CX P w) P w V0.K mg base N_law_tried_a214 d_law_tried_a214.qual d_law_tried_a214.scope fa cd B fr s H E).tr pn xe) W → SE V0 W ((cxOf (L2.CX P w) P w V0.K mg base N_law_tried_a214 d_law_tried_a214.qual d_law_tried_a214.scope fa cd B fr s H E).tr pn xe) (.Call (.Name "call" p1) [] [] p2) (.callv 0 [])) : PSs (cxOf (L2.CX P w) P w V0.K mg base N_law_tried_a214 d_law_tried_a214.qual d_law_tried_a214.scope fa cd B fr s H E) d_law_tried_a214.body (tSs V0 (fun c x _ H => E c x H) i_law_tried_a214) :=
  ss_cons (asg C (cn)) (ss_cons (s_try C rfl rfl hex Kx.xk.exm (fun W2 pn2 xe2 tk hp => ss_cons (asg (C.tr tk) (se_tup (pax_cons (cs) (pax_cons (hcall _ _ _ _ _ tk) (pax_nil))))) (ss_nil)) (.asN (ns := ["BadScheme"]) (.one rfl (by decide) Kx.m_BadScheme) (kn_cons Kx.s_BadScheme (kn_nil)) (i := 2) rfl rfl (fun a oe c d pn hc hz hf => ss_cons (asgS (C.su) (se_tup (pax_cons (cs) (pax_cons (se_xat C.K Kx.xk hc hz hf (pv' 2)) (pax_nil))))) (ss_nil)) (.nil))) (ss_cons (s_ret (nm 1)) (ss_nil)))
theorem b_law_any_56cc (M : Mg V0.K V0.G.glob mg) (Kx : Kl V0.K V0.cl.at_ V0.fld V0.G.sub P mg) (T : Tb V0.K V0.cl V0.fld P w mg base (n + 1) V0.G.phi) (C : Cq V0 (fun c x _ H => E c x H) (cxOf (L2.CX P w) P w V0.K mg base N_law_any_56cc d_law_any_56cc.qual d_law_any_56cc.scope fa cd B fr s H E) (n + 1)) (hp : PassesOwn (model P w) (cxOf (L2.CX P w) P w V0.K mg base N_law_any_56cc d_law_any_56cc.qual d_law_any_56cc.scope fa cd B fr s H E).A (cxOf (L2.CX P w) P w V0.K mg base N_law_any_56cc d_law_any_56cc.qual d_law_any_56cc.scope fa cd B fr s H E).env (cxOf (L2.CX P w) P w V0.K mg base N_law_any_56cc d_law_any_56cc.qual d_law_any_56cc.scope fa cd B fr s H E).xe) (hex : V0.cl.ex = none) : PSs (cxOf (L2.CX P w) P w V0.K mg base N_law_any_56cc d_law_any_56cc.qual d_law_any_56cc.scope fa cd B fr s H E) d_law_any_56cc.body (tSs V0 (fun c x _ H => E c x H) i_law_any_56cc) :=
  ss_cons (asg C (cal C T.law_pick_fa54 bn_law_pick_fa54 (pas_cons (nm 0) (pas_cons (se_lst (pax_cons (ci) (pax_cons (ci) (pax_cons (ci) (pax_cons (ci) (pax_cons (ci) (pax_cons (se_neg (ci)) (pax_cons (se_bop C.K (ci) (ci)) (pax_cons (cb) (pax_cons (ci) (pax_nil))))))))))) (pas_nil))))) (ss_cons (asg C (cal C T.law_pick_fa54 bn_law_pick_fa54 (pas_cons (nm 0) (pas_cons (se_lst (pax_cons (ci) (pax_cons (ci) (pax_cons (ci) (pax_cons (ci) (pax_cons (ci) (pax_cons (ci) (pax_cons (ci) (pax_cons (ci) (pax_cons (ci) (pax_cons (se_neg (ci)) (pax_cons (se_bop C.K (ci) (ci)) (pax_cons (cb) (pax_cons (cn) (pax_cons (ci) (pax_cons (ci) (pax_nil))))))))))))))))) (pas_nil))))) (ss_cons (asg C (cal C T.law_draw bn_law_draw (pas_cons (nm 0) (pas_cons (ci) (pas_nil))))) (ss_cons (s_if (cmp C (nm 3) (ci)) (ss_cons (s_ret (se_tup (pax_cons (nm 1) (pax_cons (nm 2) (pax_nil))))) (ss_nil)) (ss_nil)) (ss_cons (s_if (cmp C (nm 3) (ci)) (ss_cons (s_ret (cal C T.law_pick_fa54 bn_law_pick_fa54 (pas_cons (nm 0) (pas_cons (se_lst (pax_cons (se_tup (pax_cons (nm 1) (pax_cons (nm 2) (pax_cons (ci) (pax_nil))))) (pax_cons (se_tup (pax_cons (nm 1) (pax_nil))) (pax_cons (se_lst (pax_cons (nm 1) (pax_cons (nm 2) (pax_nil)))) (pax_cons (se_tup (pax_cons (se_tup (pax_cons (nm 1) (pax_cons (nm 2) (pax_nil)))) (pax_nil))) (pax_cons (se_tup (pax_cons (bty C rfl (by decide +kernel) M.n_str (pads_cons (nm 1) (pads_nil))) (pax_cons (nm 2) (pax_nil)))) (pax_cons (se_tup (pax_cons (nm 1) (pax_cons (bty C rfl (by decide +kernel) M.n_str (pads_cons (nm 2) (pads_nil))) (pax_nil)))) (pax_cons (se_tup (pax_cons (nm 2) (pax_cons (nm 1) (pax_nil)))) (pax_cons (se_tup (pax_cons (se_tup (pax_cons (nm 1) (pax_nil))) (pax_cons (nm 2) (pax_nil)))) (pax_cons (se_tup (pax_cons (nm 1) (pax_cons (cn) (pax_nil)))) (pax_nil))))))))))) (pas_nil))))) (ss_nil)) (ss_nil)) (ss_cons (s_ret (cal C T.law_pick_fa54 bn_law_pick_fa54 (pas_cons (nm 0) (pas_cons (se_lst (pax_cons (cn) (pax_cons (cb) (pax_cons (cb) (pax_cons (ci) (pax_cons (ci) (pax_cons (cs) (pax_cons (cs) (pax_cons (se_tup (pax_nil)) (pax_cons (se_lst (pax_nil)) (pax_cons (se_dct0) (pax_cons (se_dct (.cons (dk_i pe_int) (DKs.nil)) (.cons (ci) (DVs.nil)) rfl rfl rfl (by decide) (by decide)) (pax_cons (se_tup (pax_cons (se_tup (pax_nil)) (pax_cons (se_tup (pax_nil)) (pax_nil)))) (pax_cons (se_bop C.K (ci) (ci)) (pax_cons (se_neg (ci)) (pax_cons (cs) (pax_cons (se_tup (pax_cons (ci) (pax_cons (ci) (pax_cons (ci) (pax_nil))))) (pax_nil)))))))))))))))))) (pas_nil))))) (ss_nil))))))
end
section
variable {K : PySem.W.Frag} {cl : Cls} {fld : Str → Str} {gl : Str → Option D} {fuel : Nat} {sub : Str → Str → Bool} {P : Program} {w : World} {mg : Str → Option Value} {base : Heap} {fa : Addr} {B : Around} {fr : List Env} {s : Shared} {H : Hp} {E : XK} {n : Nat}
theorem b_lawk00 (x : Dx K mg) (M : Mg K gl mg) (Kx : Kl K cl.at_ fld sub P mg) (T : Tb K cl fld P w mg base (n + 1) (phiN defs gl fuel sub n)) (Tl : ∀ m, m < n → Tb K cl fld P w mg base (m + 1) (phiN defs gl fuel sub m)) (hno : cl.h0 = none) (hlm : cl.lam = none) (hex : cl.ex = none) (hT : LamX.TabB base mg (cdA K "law") (tbA K "law")) (mT : (tbA K "law", nmT "law") ∈ cl.T) (uT : ∀ p ∈ cl.T, p.1 = tbA K "law" → p.2 = nmT "law") (C : Cq ⟨K, cl, fld, ⟨phiN defs gl fuel sub n, gl, fuel, sub⟩⟩ (fun c x _ H => E c x H) (cxOf (L2.CX P w) P w K mg base N_lawk00 d_lawk00.qual d_lawk00.scope fa (.ref (cdA K "law")) B fr s H E) (n + 1)) (hp : PassesOwn (model P w) (cxOf (L2.CX P w) P w K mg base N_lawk00 d_lawk00.qual d_lawk00.scope fa (.ref (cdA K "law")) B fr s H E).A (cxOf (L2.CX P w) P w K mg base N_lawk00 d_lawk00.qual d_lawk00.scope fa (.ref (cdA K "law")) B fr s H E).env (cxOf (L2.CX P w) P w K mg base N_lawk00 d_lawk00.qual d_lawk00.scope fa (.ref (cdA K "law")) B fr s H E).xe) : PSs (cxOf (L2.CX P w) P w K mg base N_lawk00 d_lawk00.qual d_lawk00.scope fa (.ref (cdA K "law")) B fr s H E) d_lawk00.body (tSs ⟨K, cl, fld, ⟨phiN defs gl fuel sub n, gl, fuel, sub⟩⟩ (fun c x _ H => E c x H) i_lawk00) :=
  ss_cons (asg C (cal C T.law_deck bn_law_deck (pas_cons (nm 0) (pas_nil)))) (ss_cons (s_for hp C.calm (si_rng1 rfl M.n_range (ci)) (tgn C) (ss_cons (asg C (cal C T.law_any_56cc bn_law_any_56cc (pas_cons (nm 1) (pas_nil)))) (ss_cons (asg C (cal C T.law_is_scheme_8282 bn_law_is_scheme_8282 (pas_cons (nm 4) (pas_nil)))) (ss_cons (asg C (se_ite (cmp C (nm 2) (ci)) (se_callk0 (ks := ["thing"]) C T.p_is_scheme (by rfl) (pks_cons (nm 4) (pks_nil)) (by rfl) (by decide) (by rfl) kw_p_is_scheme_0) (cal C T.p_is_scheme bn_p_is_scheme (pas_cons (nm 4) (pas_nil))))) (ss_cons (s_if (cmp C (bfn C rfl (by decide +kernel) M.n_repr (pads_cons (nm 6) (pads_nil))) (bfn C rfl (by decide +kernel) M.n_repr (pads_cons (nm 5) (pads_nil)))) (ss_cons (s_ret (cb)) (ss_nil)) (ss_nil)) (ss_cons (asg C ((x.f_law_tried_a214).elim fun fd hD => se_lamc (dG := d_law_tried_a214) (NG := N_law_tried_a214) (a := "call") (iG := i_law_tried_a214) C rfl rfl rfl hno hlm rfl x.m_law_tried_a214 hD sc_law_tried_a214 bn_law_tried_a214 (fun m lm hh cd s H E hn CZ hp hcall => b_law_tried_a214 M Kx CZ hp hex hcall) hT rfl mT uT (LamX.lamS_by (by rfl)) rfl (fun _ _ _ _ _ => rfl) (fun m E A fr r Hr f c2 hn CL => cal CL (Tl _ (lt2 hn)).p_bound bn_p_bound (pas_cons (nm 4) (pas_nil))) rfl (.inl rfl))) (ss_cons (s_if ((sand (cmp C (nm 2) (ci)) (se_one (cmp C (bfn C rfl (by decide +kernel) M.n_repr (pads_cons ((x.f_law_tried_a214).elim fun fd hD => se_lamc (dG := d_law_tried_a214) (NG := N_law_tried_a214) (a := "call") (iG := i_law_tried_a214) C rfl rfl rfl hno hlm rfl x.m_law_tried_a214 hD sc_law_tried_a214 bn_law_tried_a214 (fun m lm hh cd s H E hn CZ hp hcall => b_law_tried_a214 M Kx CZ hp hex hcall) hT rfl mT uT (LamX.lamS_by (by rfl)) rfl (fun _ _ _ _ _ => rfl) (fun m E A fr r Hr f c2 hn CL => se_callk0 (ks := ["scheme"]) CL (Tl _ (lt2 hn)).p_bound (by rfl) (pks_cons (nm 4) (pks_nil)) (by rfl) (by decide) (by rfl) kw_p_bound_1) rfl (.inl rfl)) (pads_nil))) (bfn C rfl (by decide +kernel) M.n_repr (pads_cons (nm 7) (pads_nil)))))).1) (ss_cons (s_ret (cb)) (ss_nil)) (ss_nil)) (ss_cons (s_if (cmp C (bfn C rfl (by decide +kernel) M.n_repr (pads_cons (nm 7) (pads_nil))) (bfn C rfl (by decide +kernel) M.n_repr (pads_cons (se_ite (nm 5) (se_tup (pax_cons (cs) (pax_cons (cal C T.law_bound bn_law_bound (pas_cons (nm 4) (pas_nil))) (pax_nil)))) (se_tup (pax_cons (cs) (pax_cons (nm 4) (pax_nil))))) (pads_nil)))) (ss_cons (s_ret (cb)) (ss_nil)) (ss_nil)) (ss_nil))))))))) (ss_cons (s_for hp C.calm (si_seq C.K (se_lst (pax_cons (se_tup (pax_cons (ci) (pax_cons (ci) (pax_nil)))) (pax_cons (se_tup (pax_cons (ci) (pax_cons (ci) (pax_nil)))) (pax_cons (se_tup (pax_cons (ci) (pax_cons (ci) (pax_nil)))) (pax_cons (se_tup (pax_cons (ci) (pax_cons (ci) (pax_nil)))) (pax_cons (se_tup (pax_cons (ci) (pax_cons (ci) (pax_nil)))) (pax_cons (se_tup (pax_cons (ci) (pax_cons (ci) (pax_nil)))) (pax_cons (se_tup (pax_cons (ci) (pax_cons (ci) (pax_nil)))) (pax_nil)))))))))) (tgn C) (ss_cons (s_if (cmp C (bfn C rfl (by decide +kernel) M.n_repr (pads_cons (se_tup (pax_cons (cal C T.p_is_scheme bn_p_is_scheme (pas_cons (nm 3) (pas_nil))) (pax_cons (cal C T.p_bound bn_p_bound (pas_cons (nm 3) (pas_nil))) (pax_nil)))) (pads_nil))) (bfn C rfl (by decide +kernel) M.n_repr (pads_cons (se_tup (pax_cons (cb) (pax_cons (cal C T.law_bound bn_law_bound (pas_cons (nm 3) (pas_nil))) (pax_nil)))) (pads_nil)))) (ss_cons (s_ret (cb)) (ss_nil)) (ss_nil)) (ss_nil))) (ss_cons (s_ret (cb)) (ss_nil))))
end
section
variable {K : PySem.W.Frag} {cl : Cls} {fld : Str → Str} {P : Program} {w : World} {mg : Str → Option Value} {base : Heap} {gl : Str → Option D} {fuel : Nat} {sub : Str → Str → Bool}
theorem z_p_two (x : Dx K mg) (Kx : Kl K cl.at_ fld sub P mg) : Fn K cl fld P w mg base 1 (phiN defs gl fuel sub 0 0) P_p_two d_p_two := by
  obtain ⟨fd, h⟩ := x.f_p_two
  exact fn_zero (fun _ _ => rfl) x.m_p_two h
theorem t_p_two {n : Nat} (x : Dx K mg) (Kx : Kl K cl.at_ fld sub P mg) (M : Mg K gl mg) (hs : SysM K) (hcp : cl.P = P) (hcw : cl.w = w) (hno : cl.h0 = none) (hex : cl.ex = none) (hlm : cl.lam = none) (tf : ∀ y ∈ mks, LamX.TabB base mg (cdA K y) (tbA K y)) (cdf : ∀ y ∈ mks, ∀ oc od fd sl, K.lookup (He.ga K y) = some ⟨oc, od, .func fd, sl⟩ → fd.code = .ref (cdA K y)) (hTT : cl.T = mkT K mks) (nd : (mks.map (tbA K)).Nodup) (T : Tb K cl fld P w mg base (n + 1) (phiN defs gl fuel sub n)) (Tl : ∀ m, m < n → Tb K cl fld P w mg base (m + 1) (phiN defs gl fuel sub m)) : Fn K cl fld P w mg base (n + 1 + 1) (phiN defs gl fuel sub (n + 1) 0) P_p_two d_p_two := by
  obtain ⟨fd, h⟩ := x.f_p_two
  exact fn_succ (N := N_p_two) (ib := i_p_two) (G := ⟨phiN defs gl fuel sub n, gl, fuel, sub⟩) (fun _ _ => rfl) x.m_p_two h sc_p_two hs hcp hcw hno (by decide) fun cd B fr s H E C hp => b_p_two M Kx T C hp hex
theorem z_p_is_integer (x : Dx K mg) (Kx : Kl K cl.at_ fld sub P mg) : Fn K cl fld P w mg base 1 (phiN defs gl fuel sub 0 1) P_p_is_integer d_p_is_integer := by
  obtain ⟨fd, h⟩ := x.f_p_is_integer
  exact fn_zero (fun _ _ => rfl) x.m_p_is_integer h
theorem t_p_is_integer {n : Nat} (x : Dx K mg) (Kx : Kl K cl.at_ fld sub P mg) (M : Mg K gl mg) (hs : SysM K) (hcp : cl.P = P) (hcw : cl.w = w) (hno : cl.h0 = none) (hex : cl.ex = none) (hlm : cl.lam = none) (tf : ∀ y ∈ mks, LamX.TabB base mg (cdA K y) (tbA K y)) (cdf : ∀ y ∈ mks, ∀ oc od fd sl, K.lookup (He.ga K y) = some ⟨oc, od, .func fd, sl⟩ → fd.code = .ref (cdA K y)) (hTT : cl.T = mkT K mks) (nd : (mks.map (tbA K)).Nodup) (T : Tb K cl fld P w mg base (n + 1) (phiN defs gl fuel sub n)) (Tl : ∀ m, m < n → Tb K cl fld P w mg base (m + 1) (phiN defs gl fuel sub m)) : Fn K cl fld P w mg base (n + 1 + 1) (phiN defs gl fuel sub (n + 1) 1) P_p_is_integer d_p_is_integer := by
  obtain ⟨fd, h⟩ := x.f_p_is_integer
  exact fn_succ (N := N_p_is_integer) (ib := i_p_is_integer) (G := ⟨phiN defs gl fuel sub n, gl, fuel, sub⟩) (fun _ _ => rfl) x.m_p_is_integer h sc_p_is_integer hs hcp hcw hno (by decide) fun cd B fr s H E C hp => b_p_is_integer M Kx T C hp hex
theorem z_p_is_tuple (x : Dx K mg) (Kx : Kl K cl.at_ fld sub P mg) : Fn K cl fld P w mg base 1 (phiN defs gl fuel sub 0 2) P_p_is_tuple d_p_is_tuple := by
  obtain ⟨fd, h⟩ := x.f_p_is_tuple
  exact fn_zero (fun _ _ => rfl) x.m_p_is_tuple h
theorem t_p_is_tuple {n : Nat} (x : Dx K mg) (Kx : Kl K cl.at_ fld sub P mg) (M : Mg K gl mg) (hs : SysM K) (hcp : cl.P = P) (hcw : cl.w = w) (hno : cl.h0 = none) (hex : cl.ex = none) (hlm : cl.lam = none) (tf : ∀ y ∈ mks, LamX.TabB base mg (cdA K y) (tbA K y)) (cdf : ∀ y ∈ mks, ∀ oc od fd sl, K.lookup (He.ga K y) = some ⟨oc, od, .func fd, sl⟩ → fd.code = .ref (cdA K y)) (hTT : cl.T = mkT K mks) (nd : (mks.map (tbA K)).Nodup) (T : Tb K cl fld P w mg base (n + 1) (phiN defs gl fuel sub n)) (Tl : ∀ m, m < n → Tb K cl fld P w mg base (m + 1) (phiN defs gl fuel sub m)) : Fn K cl fld P w mg base (n + 1 + 1) (phiN defs gl fuel sub (n + 1) 2) P_p_is_tuple d_p_is_tuple := by
  obtain ⟨fd, h⟩ := x.f_p_is_tuple
  exact fn_succ (N := N_p_is_tuple) (ib := i_p_is_tuple) (G := ⟨phiN defs gl fuel sub n, gl, fuel, sub⟩) (fun _ _ => rfl) x.m_p_is_tuple h sc_p_is_tuple hs hcp hcw hno (by decide) fun cd B fr s H E C hp => b_p_is_tuple M Kx T C hp hex
theorem z_p_is_scheme_value (x : Dx K mg) (Kx : Kl K cl.at_ fld sub P mg) : Fn K cl fld P w mg base 1 (phiN defs gl fuel sub 0 3) P_p_is_scheme_value d_p_is_scheme_value := by
  obtain ⟨fd, h⟩ := x.f_p_is_scheme_value
  exact fn_zero (fun _ _ => rfl) x.m_p_is_scheme_value h
theorem t_p_is_scheme_value {n : Nat} (x : Dx K mg) (Kx : Kl K cl.at_ fld sub P mg) (M : Mg K gl mg) (hs : SysM K) (hcp : cl.P = P) (hcw : cl.w = w) (hno : cl.h0 = none) (hex : cl.ex = none) (hlm : cl.lam = none) (tf : ∀ y ∈ mks, LamX.TabB base mg (cdA K y) (tbA K y)) (cdf : ∀ y ∈ mks, ∀ oc od fd sl, K.lookup (He.ga K y) = some ⟨oc, od, .func fd, sl⟩ → fd.code = .ref (cdA K y)) (hTT : cl.T = mkT K mks) (nd : (mks.map (tbA K)).Nodup) (T : Tb K cl fld P w mg base (n + 1) (phiN defs gl fuel sub n)) (Tl : ∀ m, m < n → Tb K cl fld P w mg base (m + 1) (phiN defs gl fuel sub m)) : Fn K cl fld P w mg base (n + 1 + 1) (phiN defs gl fuel sub (n + 1) 3) P_p_is_scheme_value d_p_is_scheme_value := by
  obtain ⟨fd, h⟩ := x.f_p_is_scheme_value
  exact fn_succ (N := N_p_is_scheme_value) (ib := i_p_is_scheme_value) (G := ⟨phiN defs gl fuel sub n, gl, fuel, sub⟩) (fun _ _ => rfl) x.m_p_is_scheme_value h sc_p_is_scheme_value hs hcp hcw hno (by decide) fun cd B fr s H E C hp => b_p_is_scheme_value M Kx T C hp hex
theorem z_p_need_scheme (x : Dx K mg) (Kx : Kl K cl.at_ fld sub P mg) : Fn K cl fld P w mg base 1 (phiN defs gl fuel sub 0 4) P_p_need_scheme d_p_need_scheme := by
  obtain ⟨fd, h⟩ := x.f_p_need_scheme
  exact fn_zero (fun _ _ => rfl) x.m_p_need_scheme h
theorem t_p_need_scheme {n : Nat} (x : Dx K mg) (Kx : Kl K cl.at_ fld sub P mg) (M : Mg K gl mg) (hs : SysM K) (hcp : cl.P = P) (hcw : cl.w = w) (hno : cl.h0 = none) (hex : cl.ex = none) (hlm : cl.lam = none) (tf : ∀ y ∈ mks, LamX.TabB base mg (cdA K y) (tbA K y)) (cdf : ∀ y ∈ mks, ∀ oc od fd sl, K.lookup (He.ga K y) = some ⟨oc, od, .func fd, sl⟩ → fd.code = .ref (cdA K y)) (hTT : cl.T = mkT K mks) (nd : (mks.map (tbA K)).Nodup) (T : Tb K cl fld P w mg base (n + 1) (phiN defs gl fuel sub n)) (Tl : ∀ m, m < n → Tb K cl fld P w mg base (m + 1) (phiN defs gl fuel sub m)) : Fn K cl fld P w mg base (n + 1 + 1) (phiN defs gl fuel sub (n + 1) 4) P_p_need_scheme d_p_need_scheme := by
  obtain ⟨fd, h⟩ := x.f_p_need_scheme
  exact fn_succ (N := N_p_need_scheme) (ib := i_p_need_scheme) (G := ⟨phiN defs gl fuel sub n, gl, fuel, sub⟩) (fun _ _ => rfl) x.m_p_need_scheme h sc_p_need_scheme hs hcp hcw hno (by decide) fun cd B fr s H E C hp => b_p_need_scheme M Kx T C hp hex
theorem z_p_fraction (x : Dx K mg) (Kx : Kl K cl.at_ fld sub P mg) : Fn K cl fld P w mg base 1 (phiN defs gl fuel sub 0 5) P_p_fraction d_p_fraction := by
  obtain ⟨fd, h⟩ := x.f_p_fraction
  exact fn_zero (fun _ _ => rfl) x.m_p_fraction h
theorem t_p_fraction {n : Nat} (x : Dx K mg) (Kx : Kl K cl.at_ fld sub P mg) (M : Mg K gl mg) (hs : SysM K) (hcp : cl.P = P) (hcw : cl.w = w) (hno : cl.h0 = none) (hex : cl.ex = none) (hlm : cl.lam = none) (tf : ∀ y ∈ mks, LamX.TabB base mg (cdA K y) (tbA K y)) (cdf : ∀ y ∈ mks, ∀ oc od fd sl, K.lookup (He.ga K y) = some ⟨oc, od, .func fd, sl⟩ → fd.code = .ref (cdA K y)) (hTT : cl.T = mkT K mks) (nd : (mks.map (tbA K)).Nodup) (T : Tb K cl fld P w mg base (n + 1) (phiN defs gl fuel sub n)) (Tl : ∀ m, m < n → Tb K cl fld P w mg base (m + 1) (phiN defs gl fuel sub m)) : Fn K cl fld P w mg base (n + 1 + 1) (phiN defs gl fuel sub (n + 1) 5) P_p_fraction d_p_fraction := by
  obtain ⟨fd, h⟩ := x.f_p_fraction
  exact fn_succ (N := N_p_fraction) (ib := i_p_fraction) (G := ⟨phiN defs gl fuel sub n, gl, fuel, sub⟩) (fun _ _ => rfl) x.m_p_fraction h sc_p_fraction hs hcp hcw hno (by decide) fun cd B fr s H E C hp => b_p_fraction M Kx T C hp hex
theorem z_p_is_scheme (x : Dx K mg) (Kx : Kl K cl.at_ fld sub P mg) : Fn K cl fld P w mg base 1 (phiN defs gl fuel sub 0 6) P_p_is_scheme d_p_is_scheme := by
  obtain ⟨fd, h⟩ := x.f_p_is_scheme
  exact fn_zero (fun _ _ => rfl) x.m_p_is_scheme h
theorem t_p_is_scheme {n : Nat} (x : Dx K mg) (Kx : Kl K cl.at_ fld sub P mg) (M : Mg K gl mg) (hs : SysM K) (hcp : cl.P = P) (hcw : cl.w = w) (hno : cl.h0 = none) (hex : cl.ex = none) (hlm : cl.lam = none) (tf : ∀ y ∈ mks, LamX.TabB base mg (cdA K y) (tbA K y)) (cdf : ∀ y ∈ mks, ∀ oc od fd sl, K.lookup (He.ga K y) = some ⟨oc, od, .func fd, sl⟩ → fd.code = .ref (cdA K y)) (hTT : cl.T = mkT K mks) (nd : (mks.map (tbA K)).Nodup) (T : Tb K cl fld P w mg base (n + 1) (phiN defs gl fuel sub n)) (Tl : ∀ m, m < n → Tb K cl fld P w mg base (m + 1) (phiN defs gl fuel sub m)) : Fn K cl fld P w mg base (n + 1 + 1) (phiN defs gl fuel sub (n + 1) 6) P_p_is_scheme d_p_is_scheme := by
  obtain ⟨fd, h⟩ := x.f_p_is_scheme
  exact fn_succ (N := N_p_is_scheme) (ib := i_p_is_scheme) (G := ⟨phiN defs gl fuel sub n, gl, fuel, sub⟩) (fun _ _ => rfl) x.m_p_is_scheme h sc_p_is_scheme hs hcp hcw hno (by decide) fun cd B fr s H E C hp => b_p_is_scheme M Kx T C hp hex
theorem z_p_bound (x : Dx K mg) (Kx : Kl K cl.at_ fld sub P mg) : Fn K cl fld P w mg base 1 (phiN defs gl fuel sub 0 7) P_p_bound d_p_bound := by
  obtain ⟨fd, h⟩ := x.f_p_bound
  exact fn_zero (fun _ _ => rfl) x.m_p_bound h
theorem t_p_bound {n : Nat} (x : Dx K mg) (Kx : Kl K cl.at_ fld sub P mg) (M : Mg K gl mg) (hs : SysM K) (hcp : cl.P = P) (hcw : cl.w = w) (hno : cl.h0 = none) (hex : cl.ex = none) (hlm : cl.lam = none) (tf : ∀ y ∈ mks, LamX.TabB base mg (cdA K y) (tbA K y)) (cdf : ∀ y ∈ mks, ∀ oc od fd sl, K.lookup (He.ga K y) = some ⟨oc, od, .func fd, sl⟩ → fd.code = .ref (cdA K y)) (hTT : cl.T = mkT K mks) (nd : (mks.map (tbA K)).Nodup) (T : Tb K cl fld P w mg base (n + 1) (phiN defs gl fuel sub n)) (Tl : ∀ m, m < n → Tb K cl fld P w mg base (m + 1) (phiN defs gl fuel sub m)) : Fn K cl fld P w mg base (n + 1 + 1) (phiN defs gl fuel sub (n + 1) 7) P_p_bound d_p_bound := by
  obtain ⟨fd, h⟩ := x.f_p_bound
  exact fn_succ (N := N_p_bound) (ib := i_p_bound) (G := ⟨phiN defs gl fuel sub n, gl, fuel, sub⟩) (fun _ _ => rfl) x.m_p_bound h sc_p_bound hs hcp hcw hno (by decide) fun cd B fr s H E C hp => b_p_bound M Kx T C hp hex
theorem z_law_deck (x : Dx K mg) (Kx : Kl K cl.at_ fld sub P mg) : Fn K cl fld P w mg base 1 (phiN defs gl fuel sub 0 8) P_law_deck d_law_deck := by
  obtain ⟨fd, h⟩ := x.f_law_deck
  exact fn_zero (fun _ _ => rfl) x.m_law_deck h
theorem t_law_deck {n : Nat} (x : Dx K mg) (Kx : Kl K cl.at_ fld sub P mg) (M : Mg K gl mg) (hs : SysM K) (hcp : cl.P = P) (hcw : cl.w = w) (hno : cl.h0 = none) (hex : cl.ex = none) (hlm : cl.lam = none) (tf : ∀ y ∈ mks, LamX.TabB base mg (cdA K y) (tbA K y)) (cdf : ∀ y ∈ mks, ∀ oc od fd sl, K.lookup (He.ga K y) = some ⟨oc, od, .func fd, sl⟩ → fd.code = .ref (cdA K y)) (hTT : cl.T = mkT K mks) (nd : (mks.map (tbA K)).Nodup) (T : Tb K cl fld P w mg base (n + 1) (phiN defs gl fuel sub n)) (Tl : ∀ m, m < n → Tb K cl fld P w mg base (m + 1) (phiN defs gl fuel sub m)) : Fn K cl fld P w mg base (n + 1 + 1) (phiN defs gl fuel sub (n + 1) 8) P_law_deck d_law_deck := by
  obtain ⟨fd, h⟩ := x.f_law_deck
  exact fn_succ (N := N_law_deck) (ib := i_law_deck) (G := ⟨phiN defs gl fuel sub n, gl, fuel, sub⟩) (fun _ _ => rfl) x.m_law_deck h sc_law_deck hs hcp hcw hno (by decide) fun cd B fr s H E C hp => b_law_deck M Kx T C hp hex
theorem z_law_draw (x : Dx K mg) (Kx : Kl K cl.at_ fld sub P mg) : Fn K cl fld P w mg base 1 (phiN defs gl fuel sub 0 9) P_law_draw d_law_draw := by
  obtain ⟨fd, h⟩ := x.f_law_draw
  exact fn_zero (fun _ _ => rfl) x.m_law_draw h
theorem t_law_draw {n : Nat} (x : Dx K mg) (Kx : Kl K cl.at_ fld sub P mg) (M : Mg K gl mg) (hs : SysM K) (hcp : cl.P = P) (hcw : cl.w = w) (hno : cl.h0 = none) (hex : cl.ex = none) (hlm : cl.lam = none) (tf : ∀ y ∈ mks, LamX.TabB base mg (cdA K y) (tbA K y)) (cdf : ∀ y ∈ mks, ∀ oc od fd sl, K.lookup (He.ga K y) = some ⟨oc, od, .func fd, sl⟩ → fd.code = .ref (cdA K y)) (hTT : cl.T = mkT K mks) (nd : (mks.map (tbA K)).Nodup) (T : Tb K cl fld P w mg base (n + 1) (phiN defs gl fuel sub n)) (Tl : ∀ m, m < n → Tb K cl fld P w mg base (m + 1) (phiN defs gl fuel sub m)) : Fn K cl fld P w mg base (n + 1 + 1) (phiN defs gl fuel sub (n + 1) 9) P_law_draw d_law_draw := by
  obtain ⟨fd, h⟩ := x.f_law_draw
  exact fn_succ (N := N_law_draw) (ib := i_law_draw) (G := ⟨phiN defs gl fuel sub n, gl, fuel, sub⟩) (fun _ _ => rfl) x.m_law_draw h sc_law_draw hs hcp hcw hno (by decide) fun cd B fr s H E C hp => b_law_draw M Kx T C hp hex
theorem z_law_pick_fa54 (x : Dx K mg) (Kx : Kl K cl.at_ fld sub P mg) : Fn K cl fld P w mg base 1 (phiN defs gl fuel sub 0 10) P_law_pick_fa54 d_law_pick_fa54 := by
  obtain ⟨fd, h⟩ := x.f_law_pick_fa54
  exact fn_zero (fun _ _ => rfl) x.m_law_pick_fa54 h
theorem t_law_pick_fa54 {n : Nat} (x : Dx K mg) (Kx : Kl K cl.at_ fld sub P mg) (M : Mg K gl mg) (hs : SysM K) (hcp : cl.P = P) (hcw : cl.w = w) (hno : cl.h0 = none) (hex : cl.ex = none) (hlm : cl.lam = none) (tf : ∀ y ∈ mks, LamX.TabB base mg (cdA K y) (tbA K y)) (cdf : ∀ y ∈ mks, ∀ oc od fd sl, K.lookup (He.ga K y) = some ⟨oc, od, .func fd, sl⟩ → fd.code = .ref (cdA K y)) (hTT : cl.T = mkT K mks) (nd : (mks.map (tbA K)).Nodup) (T : Tb K cl fld P w mg base (n + 1) (phiN defs gl fuel sub n)) (Tl : ∀ m, m < n → Tb K cl fld P w mg base (m + 1) (phiN defs gl fuel sub m)) : Fn K cl fld P w mg base (n + 1 + 1) (phiN defs gl fuel sub (n + 1) 10) P_law_pick_fa54 d_law_pick_fa54 := by
  obtain ⟨fd, h⟩ := x.f_law_pick_fa54
  exact fn_succ (N := N_law_pick_fa54) (ib := i_law_pick_fa54) (G := ⟨phiN defs gl fuel sub n, gl, fuel, sub⟩) (fun _ _ => rfl) x.m_law_pick_fa54 h sc_law_pick_fa54 hs hcp hcw hno (by decide) fun cd B fr s H E C hp => b_law_pick_fa54 M Kx T C hp hex
theorem z_law_power (x : Dx K mg) (Kx : Kl K cl.at_ fld sub P mg) : Fn K cl fld P w mg base 1 (phiN defs gl fuel sub 0 11) P_law_power d_law_power := by
  obtain ⟨fd, h⟩ := x.f_law_power
  exact fn_zero (fun _ _ => rfl) x.m_law_power h
theorem t_law_power {n : Nat} (x : Dx K mg) (Kx : Kl K cl.at_ fld sub P mg) (M : Mg K gl mg) (hs : SysM K) (hcp : cl.P = P) (hcw : cl.w = w) (hno : cl.h0 = none) (hex : cl.ex = none) (hlm : cl.lam = none) (tf : ∀ y ∈ mks, LamX.TabB base mg (cdA K y) (tbA K y)) (cdf : ∀ y ∈ mks, ∀ oc od fd sl, K.lookup (He.ga K y) = some ⟨oc, od, .func fd, sl⟩ → fd.code = .ref (cdA K y)) (hTT : cl.T = mkT K mks) (nd : (mks.map (tbA K)).Nodup) (T : Tb K cl fld P w mg base (n + 1) (phiN defs gl fuel sub n)) (Tl : ∀ m, m < n → Tb K cl fld P w mg base (m + 1) (phiN defs gl fuel sub m)) : Fn K cl fld P w mg base (n + 1 + 1) (phiN defs gl fuel sub (n + 1) 11) P_law_power d_law_power := by
  obtain ⟨fd, h⟩ := x.f_law_power
  exact fn_succ (N := N_law_power) (ib := i_law_power) (G := ⟨phiN defs gl fuel sub n, gl, fuel, sub⟩) (fun _ _ => rfl) x.m_law_power h sc_law_power hs hcp hcw hno (by decide) fun cd B fr s H E C hp => b_law_power M Kx T C hp hex
theorem z_law_two (x : Dx K mg) (Kx : Kl K cl.at_ fld sub P mg) : Fn K cl fld P w mg base 1 (phiN defs gl fuel sub 0 12) P_law_two d_law_two := by
  obtain ⟨fd, h⟩ := x.f_law_two
  exact fn_zero (fun _ _ => rfl) x.m_law_two h
theorem t_law_two {n : Nat} (x : Dx K mg) (Kx : Kl K cl.at_ fld sub P mg) (M : Mg K gl mg) (hs : SysM K) (hcp : cl.P = P) (hcw : cl.w = w) (hno : cl.h0 = none) (hex : cl.ex = none) (hlm : cl.lam = none) (tf : ∀ y ∈ mks, LamX.TabB base mg (cdA K y) (tbA K y)) (cdf : ∀ y ∈ mks, ∀ oc od fd sl, K.lookup (He.ga K y) = some ⟨oc, od, .func fd, sl⟩ → fd.code = .ref (cdA K y)) (hTT : cl.T = mkT K mks) (nd : (mks.map (tbA K)).Nodup) (T : Tb K cl fld P w mg base (n + 1) (phiN defs gl fuel sub n)) (Tl : ∀ m, m < n → Tb K cl fld P w mg base (m + 1) (phiN defs gl fuel sub m)) : Fn K cl fld P w mg base (n + 1 + 1) (phiN defs gl fuel sub (n + 1) 12) P_law_two d_law_two := by
  obtain ⟨fd, h⟩ := x.f_law_two
  exact fn_succ (N := N_law_two) (ib := i_law_two) (G := ⟨phiN defs gl fuel sub n, gl, fuel, sub⟩) (fun _ _ => rfl) x.m_law_two h sc_law_two hs hcp hcw hno (by decide) fun cd B fr s H E C hp => b_law_two M Kx T C hp hex
theorem z_law_is_int_7e02 (x : Dx K mg) (Kx : Kl K cl.at_ fld sub P mg) : Fn K cl fld P w mg base 1 (phiN defs gl fuel sub 0 13) P_law_is_int_7e02 d_law_is_int_7e02 := by
  obtain ⟨fd, h⟩ := x.f_law_is_int_7e02
  exact fn_zero (fun _ _ => rfl) x.m_law_is_int_7e02 h
theorem t_law_is_int_7e02 {n : Nat} (x : Dx K mg) (Kx : Kl K cl.at_ fld sub P mg) (M : Mg K gl mg) (hs : SysM K) (hcp : cl.P = P) (hcw : cl.w = w) (hno : cl.h0 = none) (hex : cl.ex = none) (hlm : cl.lam = none) (tf : ∀ y ∈ mks, LamX.TabB base mg (cdA K y) (tbA K y)) (cdf : ∀ y ∈ mks, ∀ oc od fd sl, K.lookup (He.ga K y) = some ⟨oc, od, .func fd, sl⟩ → fd.code = .ref (cdA K y)) (hTT : cl.T = mkT K mks) (nd : (mks.map (tbA K)).Nodup) (T : Tb K cl fld P w mg base (n + 1) (phiN defs gl fuel sub n)) (Tl : ∀ m, m < n → Tb K cl fld P w mg base (m + 1) (phiN defs gl fuel sub m)) : Fn K cl fld P w mg base (n + 1 + 1) (phiN defs gl fuel sub (n + 1) 13) P_law_is_int_7e02 d_law_is_int_7e02 := by
  obtain ⟨fd, h⟩ := x.f_law_is_int_7e02
  exact fn_succ (N := N_law_is_int_7e02) (ib := i_law_is_int_7e02) (G := ⟨phiN defs gl fuel sub n, gl, fuel, sub⟩) (fun _ _ => rfl) x.m_law_is_int_7e02 h sc_law_is_int_7e02 hs hcp hcw hno (by decide) fun cd B fr s H E C hp => b_law_is_int_7e02 M Kx T C hp hex
theorem z_law_is_tuple (x : Dx K mg) (Kx : Kl K cl.at_ fld sub P mg) : Fn K cl fld P w mg base 1 (phiN defs gl fuel sub 0 14) P_law_is_tuple d_law_is_tuple := by
  obtain ⟨fd, h⟩ := x.f_law_is_tuple
  exact fn_zero (fun _ _ => rfl) x.m_law_is_tuple h
theorem t_law_is_tuple {n : Nat} (x : Dx K mg) (Kx : Kl K cl.at_ fld sub P mg) (M : Mg K gl mg) (hs : SysM K) (hcp : cl.P = P) (hcw : cl.w = w) (hno : cl.h0 = none) (hex : cl.ex = none) (hlm : cl.lam = none) (tf : ∀ y ∈ mks, LamX.TabB base mg (cdA K y) (tbA K y)) (cdf : ∀ y ∈ mks, ∀ oc od fd sl, K.lookup (He.ga K y) = some ⟨oc, od, .func fd, sl⟩ → fd.code = .ref (cdA K y)) (hTT : cl.T = mkT K mks) (nd : (mks.map (tbA K)).Nodup) (T : Tb K cl fld P w mg base (n + 1) (phiN defs gl fuel sub n)) (Tl : ∀ m, m < n → Tb K cl fld P w mg base (m + 1) (phiN defs gl fuel sub m)) : Fn K cl fld P w mg base (n + 1 + 1) (phiN defs gl fuel sub (n + 1) 14) P_law_is_tuple d_law_is_tuple := by
  obtain ⟨fd, h⟩ := x.f_law_is_tuple
  exact fn_succ (N := N_law_is_tuple) (ib := i_law_is_tuple) (G := ⟨phiN defs gl fuel sub n, gl, fuel, sub⟩) (fun _ _ => rfl) x.m_law_is_tuple h sc_law_is_tuple hs hcp hcw hno (by decide) fun cd B fr s H E C hp => b_law_is_tuple M Kx T C hp hex
theorem z_law_is_scheme_8282 (x : Dx K mg) (Kx : Kl K cl.at_ fld sub P mg) : Fn K cl fld P w mg base 1 (phiN defs gl fuel sub 0 15) P_law_is_scheme_8282 d_law_is_scheme_8282 := by
  obtain ⟨fd, h⟩ := x.f_law_is_scheme_8282
  exact fn_zero (fun _ _ => rfl) x.m_law_is_scheme_8282 h
theorem t_law_is_scheme_8282 {n : Nat} (x : Dx K mg) (Kx : Kl K cl.at_ fld sub P mg) (M : Mg K gl mg) (hs : SysM K) (hcp : cl.P = P) (hcw : cl.w = w) (hno : cl.h0 = none) (hex : cl.ex = none) (hlm : cl.lam = none) (tf : ∀ y ∈ mks, LamX.TabB base mg (cdA K y) (tbA K y)) (cdf : ∀ y ∈ mks, ∀ oc od fd sl, K.lookup (He.ga K y) = some ⟨oc, od, .func fd, sl⟩ → fd.code = .ref (cdA K y)) (hTT : cl.T = mkT K mks) (nd : (mks.map (tbA K)).Nodup) (T : Tb K cl fld P w mg base (n + 1) (phiN defs gl fuel sub n)) (Tl : ∀ m, m < n → Tb K cl fld P w mg base (m + 1) (phiN defs gl fuel sub m)) : Fn K cl fld P w mg base (n + 1 + 1) (phiN defs gl fuel sub (n + 1) 15) P_law_is_scheme_8282 d_law_is_scheme_8282 := by
  obtain ⟨fd, h⟩ := x.f_law_is_scheme_8282
  exact fn_succ (N := N_law_is_scheme_8282) (ib := i_law_is_scheme_8282) (G := ⟨phiN defs gl fuel sub n, gl, fuel, sub⟩) (fun _ _ => rfl) x.m_law_is_scheme_8282 h sc_law_is_scheme_8282 hs hcp hcw hno (by decide) fun cd B fr s H E C hp => b_law_is_scheme_8282 M Kx T C hp hex
theorem z_law_bound (x : Dx K mg) (Kx : Kl K cl.at_ fld sub P mg) : Fn K cl fld P w mg base 1 (phiN defs gl fuel sub 0 16) P_law_bound d_law_bound := by
  obtain ⟨fd, h⟩ := x.f_law_bound
  exact fn_zero (fun _ _ => rfl) x.m_law_bound h
theorem t_law_bound {n : Nat} (x : Dx K mg) (Kx : Kl K cl.at_ fld sub P mg) (M : Mg K gl mg) (hs : SysM K) (hcp : cl.P = P) (hcw : cl.w = w) (hno : cl.h0 = none) (hex : cl.ex = none) (hlm : cl.lam = none) (tf : ∀ y ∈ mks, LamX.TabB base mg (cdA K y) (tbA K y)) (cdf : ∀ y ∈ mks, ∀ oc od fd sl, K.lookup (He.ga K y) = some ⟨oc, od, .func fd, sl⟩ → fd.code = .ref (cdA K y)) (hTT : cl.T = mkT K mks) (nd : (mks.map (tbA K)).Nodup) (T : Tb K cl fld P w mg base (n + 1) (phiN defs gl fuel sub n)) (Tl : ∀ m, m < n → Tb K cl fld P w mg base (m + 1) (phiN defs gl fuel sub m)) : Fn K cl fld P w mg base (n + 1 + 1) (phiN defs gl fuel sub (n + 1) 16) P_law_bound d_law_bound := by
  obtain ⟨fd, h⟩ := x.f_law_bound
  exact fn_succ (N := N_law_bound) (ib := i_law_bound) (G := ⟨phiN defs gl fuel sub n, gl, fuel, sub⟩) (fun _ _ => rfl) x.m_law_bound h sc_law_bound hs hcp hcw hno (by decide) fun cd B fr s H E C hp => b_law_bound M Kx T C hp hex
theorem z_law_any_56cc (x : Dx K mg) (Kx : Kl K cl.at_ fld sub P mg) : Fn K cl fld P w mg base 1 (phiN defs gl fuel sub 0 18) P_law_any_56cc d_law_any_56cc := by
  obtain ⟨fd, h⟩ := x.f_law_any_56cc
  exact fn_zero (fun _ _ => rfl) x.m_law_any_56cc h
theorem t_law_any_56cc {n : Nat} (x : Dx K mg) (Kx : Kl K cl.at_ fld sub P mg) (M : Mg K gl mg) (hs : SysM K) (hcp : cl.P = P) (hcw : cl.w = w) (hno : cl.h0 = none) (hex : cl.ex = none) (hlm : cl.lam = none) (tf : ∀ y ∈ mks, LamX.TabB base mg (cdA K y) (tbA K y)) (cdf : ∀ y ∈ mks, ∀ oc od fd sl, K.lookup (He.ga K y) = some ⟨oc, od, .func fd, sl⟩ → fd.code = .ref (cdA K y)) (hTT : cl.T = mkT K mks) (nd : (mks.map (tbA K)).Nodup) (T : Tb K cl fld P w mg base (n + 1) (phiN defs gl fuel sub n)) (Tl : ∀ m, m < n → Tb K cl fld P w mg base (m + 1) (phiN defs gl fuel sub m)) : Fn K cl fld P w mg base (n + 1 + 1) (phiN defs gl fuel sub (n + 1) 18) P_law_any_56cc d_law_any_56cc := by
  obtain ⟨fd, h⟩ := x.f_law_any_56cc
  exact fn_succ (N := N_law_any_56cc) (ib := i_law_any_56cc) (G := ⟨phiN defs gl fuel sub n, gl, fuel, sub⟩) (fun _ _ => rfl) x.m_law_any_56cc h sc_law_any_56cc hs hcp hcw hno (by decide) fun cd B fr s H E C hp => b_law_any_56cc M Kx T C hp hex
theorem z_lawk00 (x : Dx K mg) (Kx : Kl K cl.at_ fld sub P mg) : Fn K cl fld P w mg base 1 (phiN defs gl fuel sub 0 19) P_lawk00 d_lawk00 := by
  obtain ⟨fd, h⟩ := x.f_lawk00
  exact fn_zero (fun _ _ => rfl) x.m_lawk00 h
theorem t_lawk00 {n : Nat} (x : Dx K mg) (Kx : Kl K cl.at_ fld sub P mg) (M : Mg K gl mg) (hs : SysM K) (hcp : cl.P = P) (hcw : cl.w = w) (hno : cl.h0 = none) (hex : cl.ex = none) (hlm : cl.lam = none) (tf : ∀ y ∈ mks, LamX.TabB base mg (cdA K y) (tbA K y)) (cdf : ∀ y ∈ mks, ∀ oc od fd sl, K.lookup (He.ga K y) = some ⟨oc, od, .func fd, sl⟩ → fd.code = .ref (cdA K y)) (hTT : cl.T = mkT K mks) (nd : (mks.map (tbA K)).Nodup) (T : Tb K cl fld P w mg base (n + 1) (phiN defs gl fuel sub n)) (Tl : ∀ m, m < n → Tb K cl fld P w mg base (m + 1) (phiN defs gl fuel sub m)) : Fn K cl fld P w mg base (n + 1 + 1) (phiN defs gl fuel sub (n + 1) 19) P_lawk00 d_lawk00 := by
  obtain ⟨fd, h⟩ := x.f_lawk00
  have hin : ("law" : Str) ∈ mks := by decide
  exact fn_succ2 (N := N_lawk00) (ib := i_lawk00) (G := ⟨phiN defs gl fuel sub n, gl, fuel, sub⟩) (fun _ _ => rfl) x.m_lawk00 h sc_lawk00 hs hcp hcw hno (by decide) (cdf _ hin) fun B fr s H E C hp => b_lawk00 x M Kx T Tl hno hlm hex (tf _ hin) (hTT ▸ mkT_mem hin) (hTT ▸ mkT_only nd hin) C hp
theorem tab (x : Dx K mg) (Kx : Kl K cl.at_ fld sub P mg) (M : Mg K gl mg) (hs : SysM K) (hcp : cl.P = P) (hcw : cl.w = w) (hno : cl.h0 = none) (hex : cl.ex = none) (hlm : cl.lam = none) (tf : ∀ y ∈ mks, LamX.TabB base mg (cdA K y) (tbA K y)) (cdf : ∀ y ∈ mks, ∀ oc od fd sl, K.lookup (He.ga K y) = some ⟨oc, od, .func fd, sl⟩ → fd.code = .ref (cdA K y)) (hTT : cl.T = mkT K mks) (nd : (mks.map (tbA K)).Nodup) (n : Nat) : Tb K cl fld P w mg base (n + 1) (phiN defs gl fuel sub n) :=
  strong (P := fun n => Tb K cl fld P w mg base (n + 1) (phiN defs gl fuel sub n)) (fun n ih => match n, ih with
  | 0, _ => ⟨z_p_two x Kx, z_p_is_integer x Kx, z_p_is_tuple x Kx, z_p_is_scheme_value x Kx, z_p_need_scheme x Kx, z_p_fraction x Kx, z_p_is_scheme x Kx, z_p_bound x Kx, z_law_deck x Kx, z_law_draw x Kx, z_law_pick_fa54 x Kx, z_law_power x Kx, z_law_two x Kx, z_law_is_int_7e02 x Kx, z_law_is_tuple x Kx, z_law_is_scheme_8282 x Kx, z_law_bound x Kx, z_law_any_56cc x Kx, z_lawk00 x Kx⟩
  | n + 1, ih => ⟨t_p_two x Kx M hs hcp hcw hno hex hlm tf cdf hTT nd (ih n (Nat.lt_succ_self n)) fun m h => ih m (Nat.lt_succ_of_lt h), t_p_is_integer x Kx M hs hcp hcw hno hex hlm tf cdf hTT nd (ih n (Nat.lt_succ_self n)) fun m h => ih m (Nat.lt_succ_of_lt h), t_p_is_tuple x Kx M hs hcp hcw hno hex hlm tf cdf hTT nd (ih n (Nat.lt_succ_self n)) fun m h => ih m (Nat.lt_succ_of_lt h), t_p_is_scheme_value x Kx M hs hcp hcw hno hex hlm tf cdf hTT nd (ih n (Nat.lt_succ_self n)) fun m h => ih m (Nat.lt_succ_of_lt h), t_p_need_scheme x Kx M hs hcp hcw hno hex hlm tf cdf hTT nd (ih n (Nat.lt_succ_self n)) fun m h => ih m (Nat.lt_succ_of_lt h), t_p_fraction x Kx M hs hcp hcw hno hex hlm tf cdf hTT nd (ih n (Nat.lt_succ_self n)) fun m h => ih m (Nat.lt_succ_of_lt h), t_p_is_scheme x Kx M hs hcp hcw hno hex hlm tf cdf hTT nd (ih n (Nat.lt_succ_self n)) fun m h => ih m (Nat.lt_succ_of_lt h), t_p_bound x Kx M hs hcp hcw hno hex hlm tf cdf hTT nd (ih n (Nat.lt_succ_self n)) fun m h => ih m (Nat.lt_succ_of_lt h), t_law_deck x Kx M hs hcp hcw hno hex hlm tf cdf hTT nd (ih n (Nat.lt_succ_self n)) fun m h => ih m (Nat.lt_succ_of_lt h), t_law_draw x Kx M hs hcp hcw hno hex hlm tf cdf hTT nd (ih n (Nat.lt_succ_self n)) fun m h => ih m (Nat.lt_succ_of_lt h), t_law_pick_fa54 x Kx M hs hcp hcw hno hex hlm tf cdf hTT nd (ih n (Nat.lt_succ_self n)) fun m h => ih m (Nat.lt_succ_of_lt h), t_law_power x Kx M hs hcp hcw hno hex hlm tf cdf hTT nd (ih n (Nat.lt_succ_self n)) fun m h => ih m (Nat.lt_succ_of_lt h), t_law_two x Kx M hs hcp hcw hno hex hlm tf cdf hTT nd (ih n (Nat.lt_succ_self n)) fun m h => ih m (Nat.lt_succ_of_lt h), t_law_is_int_7e02 x Kx M hs hcp hcw hno hex hlm tf cdf hTT nd (ih n (Nat.lt_succ_self n)) fun m h => ih m (Nat.lt_succ_of_lt h), t_law_is_tuple x Kx M hs hcp hcw hno hex hlm tf cdf hTT nd (ih n (Nat.lt_succ_self n)) fun m h => ih m (Nat.lt_succ_of_lt h), t_law_is_scheme_8282 x Kx M hs hcp hcw hno hex hlm tf cdf hTT nd (ih n (Nat.lt_succ_self n)) fun m h => ih m (Nat.lt_succ_of_lt h), t_law_bound x Kx M hs hcp hcw hno hex hlm tf cdf hTT nd (ih n (Nat.lt_succ_self n)) fun m h => ih m (Nat.lt_succ_of_lt h), t_law_any_56cc x Kx M hs hcp hcw hno hex hlm tf cdf hTT nd (ih n (Nat.lt_succ_self n)) fun m h => ih m (Nat.lt_succ_of_lt h), t_lawk00 x Kx M hs hcp hcw hno hex hlm tf cdf hTT nd (ih n (Nat.lt_succ_self n)) fun m h => ih m (Nat.lt_succ_of_lt h)⟩) n
end
def fn : List He.DefD := [d_p_two, d_p_is_integer, d_p_is_tuple, d_p_is_scheme_value, d_p_need_scheme, d_p_fraction, d_p_is_scheme, d_p_bound, d_law_deck, d_law_draw, d_law_pick_fa54, d_law_power, d_law_two, d_law_is_int_7e02, d_law_is_tuple, d_law_is_scheme_8282, d_law_bound, d_law_tried_a214, d_law_any_56cc, d_lawk00]
def xn : List He.DefD := [dx_BadScheme]
def fa : List He.Fa := [.glo "two", .glo "is_integer", .glo "is_tuple", .glo "is_scheme_value", .glo "need_scheme", .glo "fraction", .glo "is_scheme", .glo "bound", .glo "_law_deck", .glo "_law_draw", .glo "_law_pick", .glo "_law_power", .glo "_law_two", .glo "_law_is_int", .glo "_law_is_tuple", .glo "_law_is_scheme", .glo "_law_bound", .glo "_law_tried", .glo "_law_any", .glo "law", .free "bool", .free "int", .free "isinstance", .free "len", .free "list", .free "max", .free "range", .free "repr", .free "str", .free "super", .free "tuple", .glo "DividerError", .glo "BadScheme"]
abbrev R : PySem.W.OpenRow := PySem.W.OpenLaw.row PySem.Challenge.rw_quotientcells_k00_schemes_of_any_value
def xcl : List Str := ["DividerError", "BadScheme"]
def xps : List (Str × Str) := [("DividerError", "DividerError"), ("BadScheme", "DividerError"), ("BadScheme", "BadScheme"), (".thing", "BadScheme")]
def fx (K : PySem.W.Frag) : Bool := sysB K && He.eqO (PySem.W.nsIn K mainGlobals "gcd") (some (some (.builtin "math.gcd"))) && xkB K xcl xps "thing" && xcB K "BadScheme" "thing" && xfB K R.prog dx_BadScheme && decide ((mks.map (tbA K)).Nodup)
def as_ : List Addr := [2, 1, 3, 6, 4, 52, 74, 83, 90, 97, 104, 111, 118, 125, 132, 139, 146, 153, 160, 167, 174, 181, 188, 195, 202, 209, 216, 0, 51, 73, 82, 89, 96, 103, 110, 117, 124, 131, 138, 145, 152, 159, 166, 173, 180, 187, 194, 201, 208, 215, 50, 53, 71, 72, 77, 78, 79, 80, 81, 84, 85, 86, 87, 88, 91, 92, 93, 94, 95, 98, 99, 100, 101, 102, 105, 106, 107, 108, 109, 112, 113, 114, 115, 116, 119, 120, 121, 122, 123, 126, 127, 128, 129, 130, 133, 134, 135, 136, 137, 140, 141, 142, 143, 144, 147, 148, 149, 150, 151, 154, 155, 156, 157, 158, 161, 162, 163, 164, 165, 168, 169, 170, 171, 172, 175, 176, 177, 178, 179, 182, 183, 184, 185, 186, 189, 190, 191, 192, 193, 196, 197, 198, 199, 200, 203, 204, 205, 206, 207, 210, 212, 213, 214, 70, 59]
def ts_ : List Addr := [211]
abbrev hk : PySem.W.Hook := hookT as_ ts_ fa fn xn mks fx
def ob (s : PySem.W.SharedT) : AlT := obT as_ ts_ fa fn xn mks fx (HandSHeadRun.getT s)
theorem ob_eq (s : PySem.W.SharedT) : ob s = hk.obs s.abs := obT_eq (HandSHeadRun.getT_eq s)
def loose : List Str := (["DividerError", "BadScheme", "two", "is_integer", "is_tuple", "is_scheme_value", "need_scheme", "fraction", "is_scheme", "bound", "_law_deck", "_law_draw", "_law_pick", "_law_power", "_law_two", "_law_is_int", "_law_is_tuple", "_law_is_scheme", "_law_bound", "_law_tried", "_law_any"] : List Str)
theorem run (w : World) : HandSHeadRun.RunEqI R (PySem.W.view R.prog [0, 26]) hk ob 6000 loose w := by
  unfold HandSHeadRun.RunEqI
  kernel_rfl
theorem top_ : ((R).prog.main.scope.names.lookup ("super" : Str)).isSome = false := by kernel_rfl
theorem xb_BadScheme : XiB dx_BadScheme.qual dx_BadScheme.body dx_BadScheme.scope "thing" "self" "thing" := ⟨⟨_, _, _, _, _, _, _, _, _, _, rfl, fun L a cda cc => ⟨⟨_, rfl⟩, rfl, rfl⟩⟩, rfl, rfl, rfl, rfl, by decide +kernel, rfl, rfl, rfl, by decide, rfl, rfl⟩
theorem facts {h : Heap} {mg : Str → Option Value} {K : PySem.W.Frag} (S : SaysT fa fn xn mks fx K h) (G : h.Ns mainGlobals mg) : Dx K mg ∧ Mg K glob mg ∧ SysM K ∧ Kl K (fun c => He.ga K c) (fun _ => "thing") subs R.prog mg ∧ (mks.map (tbA K)).Nodup := by
  have X := S.kin
  have c := S.d
  have c2 := S.fx
  obtain ⟨c2, z5⟩ := He.ba c2
  obtain ⟨c2, z4⟩ := He.ba c2
  obtain ⟨c2, z3⟩ := He.ba c2
  obtain ⟨c2, z2⟩ := He.ba c2
  obtain ⟨c2, z1⟩ := He.ba c2
  exact ⟨⟨He.glo_ok X G (c.fact 0 (f := .glo "two") rfl), c.def_ 0 (d := d_p_two) rfl, He.glo_ok X G (c.fact 1 (f := .glo "is_integer") rfl), c.def_ 1 (d := d_p_is_integer) rfl, He.glo_ok X G (c.fact 2 (f := .glo "is_tuple") rfl), c.def_ 2 (d := d_p_is_tuple) rfl, He.glo_ok X G (c.fact 3 (f := .glo "is_scheme_value") rfl), c.def_ 3 (d := d_p_is_scheme_value) rfl, He.glo_ok X G (c.fact 4 (f := .glo "need_scheme") rfl), c.def_ 4 (d := d_p_need_scheme) rfl, He.glo_ok X G (c.fact 5 (f := .glo "fraction") rfl), c.def_ 5 (d := d_p_fraction) rfl, He.glo_ok X G (c.fact 6 (f := .glo "is_scheme") rfl), c.def_ 6 (d := d_p_is_scheme) rfl, He.glo_ok X G (c.fact 7 (f := .glo "bound") rfl), c.def_ 7 (d := d_p_bound) rfl, He.glo_ok X G (c.fact 8 (f := .glo "_law_deck") rfl), c.def_ 8 (d := d_law_deck) rfl, He.glo_ok X G (c.fact 9 (f := .glo "_law_draw") rfl), c.def_ 9 (d := d_law_draw) rfl, He.glo_ok X G (c.fact 10 (f := .glo "_law_pick") rfl), c.def_ 10 (d := d_law_pick_fa54) rfl, He.glo_ok X G (c.fact 11 (f := .glo "_law_power") rfl), c.def_ 11 (d := d_law_power) rfl, He.glo_ok X G (c.fact 12 (f := .glo "_law_two") rfl), c.def_ 12 (d := d_law_two) rfl, He.glo_ok X G (c.fact 13 (f := .glo "_law_is_int") rfl), c.def_ 13 (d := d_law_is_int_7e02) rfl, He.glo_ok X G (c.fact 14 (f := .glo "_law_is_tuple") rfl), c.def_ 14 (d := d_law_is_tuple) rfl, He.glo_ok X G (c.fact 15 (f := .glo "_law_is_scheme") rfl), c.def_ 15 (d := d_law_is_scheme_8282) rfl, He.glo_ok X G (c.fact 16 (f := .glo "_law_bound") rfl), c.def_ 16 (d := d_law_bound) rfl, He.glo_ok X G (c.fact 17 (f := .glo "_law_tried") rfl), c.def_ 17 (d := d_law_tried_a214) rfl, He.glo_ok X G (c.fact 18 (f := .glo "_law_any") rfl), c.def_ 18 (d := d_law_any_56cc) rfl, He.glo_ok X G (c.fact 19 (f := .glo "law") rfl), c.def_ 19 (d := d_lawk00) rfl⟩, ⟨He.free_ok X G (c.fact 20 (f := .free "bool") rfl), He.free_ok X G (c.fact 21 (f := .free "int") rfl), He.free_ok X G (c.fact 22 (f := .free "isinstance") rfl), He.free_ok X G (c.fact 23 (f := .free "len") rfl), He.free_ok X G (c.fact 24 (f := .free "list") rfl), He.free_ok X G (c.fact 25 (f := .free "max") rfl), He.free_ok X G (c.fact 26 (f := .free "range") rfl), He.free_ok X G (c.fact 27 (f := .free "repr") rfl), He.free_ok X G (c.fact 28 (f := .free "str") rfl), He.free_ok X G (c.fact 29 (f := .free "super") rfl), He.free_ok X G (c.fact 30 (f := .free "tuple") rfl), PySem.W.mg_of X G (He.eqO_ok z1)⟩, sysB_ok c2, ⟨xk_ok z2 (fl_ok (by decide +kernel)), top_, He.glo_ok X G (c.fact 31 (f := .glo "DividerError") rfl), by decide, He.glo_ok X G (c.fact 32 (f := .glo "BadScheme") rfl), by decide, xc_ok z3, xf_ok (xn_at S.xn 0 (d := dx_BadScheme)) z4 ⟨_, rfl, rfl⟩ (fun _ _ _ _ _ _ _ _ _ => rfl), xb_BadScheme⟩, of_decide_eq_true z5⟩
end K00
end Q
open PySem PySem.W PySem.Calls PyProof.Rows L2
theorem Q.K00.done (hP : Q.K00.Plain) : PySem.Challenge.rw_quotientcells_k00_schemes_of_any_value.Holds := by
  w_on; o_law
  refine HandSHeadRun.head_imp (r := Q.K00.R) (q := view (Q.K00.R).prog [0, 26]) (H := Q.K00.hk) (ob := Q.K00.ob) (M := 6000) (loose := Q.K00.loose) (d := HandSHeadRun.topDef (Q.K00.R).prog 26) (kwd := []) Q.K00.ob_eq Q.K00.run (by kernel_rfl) (by kernel_rfl) (by kernel_rfl) (by rfl) (by first | assumption | decide +kernel) (by decide +kernel) ⟨rfl, rfl, rfl, rfl, rfl, by decide +kernel⟩ ?hw ?hc
  case hw => w_witness2
  case hc =>
    refine Q.walk_t (l := PySem.Challenge.rw_quotientcells_k00_schemes_of_any_value) (m := 63) (n := 41) (x := "script") (mk := Q.K00.mks) rfl (by decide) (by kernel_rfl) ⟨⟨rfl, by decide, by decide⟩, rfl⟩ ?F
    intro w mg fa h Y G hm
    obtain ⟨K, S⟩ := Y
    obtain ⟨x, M, hs, Kl, nd⟩ := Q.K00.facts S G
    have hm2 : mg ("law" : PySem.Str) = some (.ref fa) := by
      have e : (HandSHeadRun.topDef (Q.K00.R).prog 26).name = ("law" : PySem.Str) := by kernel_rfl
      rw [← e]; exact hm
    have e := hm2.symm.trans x.m_lawk00
    cases e
    obtain ⟨fd, hD⟩ := x.f_lawk00
    let cl : Q.Cls := { at_ := fun c => He.ga K c, P := (PySem.Challenge.rw_quotientcells_k00_schemes_of_any_value).prog, w := w, T := Q.mkT K Q.K00.mks }
    refine ⟨K, fd, Q.spL K cl (fun _ => "thing") (fun fuel => Q.phiN Q.K00.defs Q.K00.glob fuel Q.K00.subs 40 19), S.kin, S.tab, fun s v => hD.bindsA (ps := Q.K00.P_lawk00) Q.K00.bn_lawk00 s [v] rfl, fun H a ns hl hb hT hS => Q.law_sp (Q.mkT_nil hT) hS (hP ns hl hb), fun base _ _ hTB => ⟨fun _ _ _ _ h => Q.spL_len h, ?_⟩⟩
    intro B fr s H ar us vs QQ E hr e0 hbt hv ⟨fuel, hsp⟩
    obtain ⟨fa2, fd2, hm3, hD2, hF⟩ := (Q.K00.tab (cl := cl) (fld := fun _ => "thing") (P := (PySem.Challenge.rw_quotientcells_k00_schemes_of_any_value).prog) (w := w) (base := base) (gl := Q.K00.glob) (fuel := fuel) (sub := Q.K00.subs) x Kl M hs rfl rfl rfl rfl rfl hTB (fun y hy => (S.tab y hy).cd) rfl nd 40).lawk00.ex
    have e2 := hm3.symm.trans x.m_lawk00
    cases e2
    obtain rfl := Q.funD_eq hD hD2
    exact hF.run B fr s H ar us vs QQ E hr e0 hbt hv hsp

theorem PySem.Challenge.cw_quotientcells_k00_schemes_of_any_value_holds : PySem.Challenge.rw_quotientcells_k00_schemes_of_any_value.Holds :=
  Q.K00.done Q.K00.plain
