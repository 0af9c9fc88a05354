import PyProof.Rows.All
import Wide.All
import OpenK.AllK
import Wide.FinOn
import HandS.ForMost
import HandS.Exc
import HandS.TryOnly
import HandS.TryMany
import HandS.ExcOwn
import HandS.ExcInit
import HandS.ExcField
import HandS.Small
import HandS.IsInst
import HandS.Deep
import HandS.Wide
import HandS.WideBits
import HandS.Defaults
import HandS.CallSlots
import HandS.TupAny
import HandS.TupMul
import HandS.Conv
import HandS.Codes
import HandS.Style
import HandS.Flow
import HandS.FStr
import HandS.Walk
import HandS.Rev
import HandS.Remove
import HandS.SetKeys
import HandS.Head0
import HandS.Head1
import HandS.Head2
import HandS.HeadEnd
import HandS.HeadHook1
import HandS.HeadHook2
import KE.GoesMore
import HandS.HeadHook4
import HandS.EndBits
import HandS.Text
import PySem.Challenge.RW_undocells_k01_tokens_of_any_text
set_option Elab.async false
set_option maxRecDepth 100000
set_option maxHeartbeats 0
set_option linter.all false
namespace UI
open PySem

/-- data without addresses; glo x: the module's object of that name; wls: a list that is only read -/
inductive D where
  | non | bl (b : Bool) | int (i : Int) | str (s : Str) | ty (n : String) | glo (x : Str)
  | tup (ds : List D) | lst (ds : List D) | wls (ds : List D)
/-- an operand: a datum, a new list, a cell -/
inductive O where
  | val (d : D) | fr (ds : List D) | ptr (r : Nat)
/-- a list that its frame owns, or one that is not changed any more -/
inductive Cl where
  | lst (ds : List D) | frz (ds : List D)
abbrev Store := List Cl
abbrev Env := List (Option O)
structure Xc where
  cls : Str
  fs : List (Str × D)
inductive Out (α : Type) where
  | ok (a : α) (S : Store) | exc (x : Xc) (S : Store) | bad
def Out.bind {α β : Type} (o : Out α) (f : α → Store → Out β) : Out β := match o with
  | .ok a S => f a S
  | .exc x S => .exc x S
  | .bad => .bad
abbrev Ev := Env → Store → Out O
abbrev Tv := Env → Store → Out Bool
abbrev Iv := Env → Store → Out (List D)
abbrev Av := Env → Store → Out (List O)

def cellD : Option Cl → Option D
  | some (.lst ds) => some (.lst ds)
  | some (.frz ds) => some (.lst ds)
  | none => none
/-- what an operand is now -/
def look : O → Store → Option D
  | .val d, _ => some d
  | .fr ds, _ => some (.lst ds)
  | .ptr r, S => cellD S[r]?
def forceC (S : Store) (r : Nat) : Option Cl → Out D
  | some (.lst ds) => .ok (.lst ds) (S.set r (.frz ds))
  | some (.frz ds) => .ok (.lst ds) S
  | none => .bad
/-- .. made a datum: a cell is given up -/
def force : O → Store → Out D
  | .val d, S => .ok d S
  | .fr ds, S => .ok (.lst ds) S
  | .ptr r, S => forceC S r S[r]?
/-- .. handed on: a new list is a datum -/
def norm : O → O
  | .fr ds => .val (.lst ds)
  | o => o
def Out.of {α : Type} : Option α → Store → Out α
  | some a, S => .ok a S
  | none, _ => .bad

mutual
def toPy : D → Option PyData
  | .non => some .none
  | .bl b => some (.bool b)
  | .int i => some (.int i)
  | .str s => some (.str s)
  | .ty _ => none
  | .glo _ => none
  | .tup ds => (toPyL ds).map .tuple
  | .lst ds => (toPyL ds).map .list
  | .wls ds => (toPyL ds).map .list
def toPyL : List D → Option (List PyData)
  | [] => some []
  | d :: ds => match toPy d, toPyL ds with
    | some p, some ps => some (p :: ps)
    | _, _ => none
end
/-- == where both are data -/
def eqD (d e : D) : Option Bool := match toPy d, toPy e with
  | some p, some q => if SeqAt.shaped p && SeqAt.shaped q then some (PyData.eqv p q) else none
  | _, _ => none

/-! ### operators -/
def binD0 : Operator → D → D → Option O
  | .Add, .int i, .int j => some (.val (.int (i + j)))
  | .Add, .str x, .str y => if x.length + y.length ≤ sizeLine then some (.val (.str (x ++ y))) else none
  | .Add, .lst xs, .lst ys => if xs.length + ys.length ≤ sizeLine then some (.fr (xs ++ ys)) else none
  | .Add, .tup xs, .tup ys => if xs.length + ys.length ≤ sizeLine then some (.val (.tup (xs ++ ys))) else none
  | .Sub, .int i, .int j => some (.val (.int (i - j)))
  | .Mult, .int i, .int j => if (-(2 ^ 64) < i ∧ i < 2 ^ 64) ∨ (-(2 ^ 64) < j ∧ j < 2 ^ 64) ∨ i.natAbs.log2 + j.natAbs.log2 < 1000000 then some (.val (.int (i * j))) else none
  | .Mult, .lst xs, .int k => if -(2 ^ 63) ≤ k ∧ k < 2 ^ 63 ∧ xs.length * k.toNat ≤ sizeLine then some (.fr (List.replicate k.toNat xs).flatten) else none
  | .Mult, .tup xs, .int k => if xs ≠ [] ∧ 2 ≤ k ∧ k ≤ 1000 ∧ xs.length ≤ 1000 then some (.val (.tup (List.replicate k.toNat xs).flatten)) else none
  | .FloorDiv, .int i, .int j => if 0 < j ∧ j.natAbs.log2 < 9000 then some (.val (.int (i / j))) else none
  | .Mod, .int i, .int j => if 0 < j then some (.val (.int (i % j))) else none
  | .Pow, .int i, .int j => if 0 ≤ j ∧ j ≤ 1000000 ∧ i.natAbs < 2 ^ 64 then some (.val (.int (i ^ j.toNat))) else none
  | .LShift, .int i, .int j => if 0 ≤ j ∧ (Builtin.Int.intBits i : Int) + j ≤ 2 ^ 27 then some (.val (.int (i * 2 ^ j.toNat))) else none
  | .RShift, .int i, .int j => if 0 ≤ j then some (.val (.int (i / 2 ^ j.toNat))) else none
  | .BitAnd, .int i, .int j => some (.val (.int (Builtin.bitAnd i j)))
  | .BitOr, .int i, .int j => some (.val (.int (Builtin.bitOr i j)))
  | .BitXor, .int i, .int j => some (.val (.int (Builtin.bitXor i j)))
  | _, _, _ => none
theorem binD_ex : ∃ f, f = binD0 := ⟨_, rfl⟩
noncomputable section
/-- the operators; what they are is told by binD_eq alone -/
def binD : Operator → D → D → Option O := Classical.choose binD_ex
theorem binD_eq : binD = binD0 := Classical.choose_spec binD_ex
def unD : UnaryOp → D → Option O
  | .USub, .int i => some (.val (.int (-i)))
  | _, _ => none
def flatD : D → Bool
  | .non | .bl _ | .int _ | .str _ => true
  | _ => false
def flatEq : D → D → Bool
  | .non, .non => true
  | .bl a, .bl b => a == b
  | .bl a, .int j => (if a then 1 else 0) == j
  | .int i, .bl b => i == (if b then 1 else 0)
  | .int i, .int j => i == j
  | .str x, .str y => decide (x = y)
  | _, _ => false
def anyEq (d : D) (ds : List D) : Option Bool := match toPy d, toPyL ds with
    | some p, some ps => if SeqAt.shaped p && SeqAt.shaped (.list ps) then some (ps.any fun z => PyData.eqv z p) else none
    | _, _ => none
def inD (d : D) : D → Option Bool
  | .tup es => if flatD d && es.all flatD then some (es.any fun e => flatEq e d) else none
  | .lst es => anyEq d es
  | .str y => match d with
    | .str x => some (!(Builtin.Str.occurrences y x 0 y.length 1).isEmpty)
    | _ => none
  | _ => none
def isNonD : D → Bool
  | .non => true
  | _ => false
def cmpD : CmpOp → D → D → Option Bool
  | .Eq, d, e => eqD d e
  | .NotEq, d, e => (eqD d e).map (!·)
  | .Lt, .int i, .int j => some (decide (i < j))
  | .LtE, .int i, .int j => some (decide (i ≤ j))
  | .Gt, .int i, .int j => some (decide (j < i))
  | .GtE, .int i, .int j => some (decide (j ≤ i))
  | .In, d, e => inD d e
  | .NotIn, d, e => (inD d e).map (!·)
  | .Is, d, .non => some (isNonD d)
  | .IsNot, d, .non => some (!isNonD d)
  | .Is, .bl a, .bl b => some (decide (a = b))
  | .IsNot, .bl a, .bl b => some (!decide (a = b))
  | _, _, _ => none
def truD : D → Option Bool
  | .non => some false
  | .bl b => some b
  | .int i => some (i != 0)
  | .str y => if y.length ≤ sizeLine then some ((y.length : Int) != 0) else none
  | .tup ds => some (!ds.isEmpty)
  | .lst ds => some (!ds.isEmpty)
  | .wls ds => some (!ds.isEmpty)
  | _ => none
def atD (ds : List D) (i : Int) : Option D := (L2.ixN ds.length i).bind fun j => ds[j]?
def ixD : D → D → Option D
  | .tup ds, .int i => atD ds i
  | .lst ds, .int i => atD ds i
  | .wls ds, .int i => atD ds i
  | .str z, .int i => if z.length ≤ sizeLine then ((L2.ixN z.cps.toList.length i).bind fun j => z.cps.toList[j]?).map fun c => .str ⟨#[c]⟩ else none
  | _, _ => none
def cutD (ds : List D) (lo hi : Option Int) : List D := (ds.drop (HT.sIx ds.length 0 lo)).take (HT.sIx ds.length ds.length hi - HT.sIx ds.length 0 lo)
def slD : D → Option Int → Option Int → Option O
  | .lst ds, lo, hi => some (.fr (cutD ds lo hi))
  | .wls ds, lo, hi => some (.fr (cutD ds lo hi))
  | .tup ds, lo, hi => some (.val (.tup (cutD ds lo hi)))
  | .str z, lo, hi => if z.length ≤ sizeLine then some (.val (.str (Txt.slice z lo hi))) else none
  | _, _, _ => none
def intsOf : List D → Option (List Int)
  | [] => some []
  | .int i :: ds => (intsOf ds).map (i :: ·)
  | _ => none
def boolsOf : List D → Option (List Bool)
  | [] => some []
  | .bl i :: ds => (boolsOf ds).map (i :: ·)
  | _ => none
def strsOf : List D → Option (List Str)
  | [] => some []
  | .str i :: ds => (strsOf ds).map (i :: ·)
  | _ => none
/-- a value's type's name, for isinstance -/
def tyD : D → Option String
  | .non => some "NoneType"
  | .bl _ => some "bool"
  | .int _ => some "int"
  | .str _ => some "str"
  | .tup _ => some "tuple"
  | .lst _ => some "list"
  | .wls _ => some "list"
  | _ => none
def isiD (t c : String) : Option Bool := L2.kitB t c
/-! built-in functions and types -/
def seqOf : D → Option (List D)
  | .lst ds => some ds
  | .wls ds => some ds
  | .tup ds => some ds
  | _ => none
def lenB : List D → Option O
  | [.str y] => if y.length ≤ sizeLine then some (.val (.int y.length)) else none
  | [d] => (seqOf d).map fun ds => .val (.int ds.length)
  | _ => none
def absB : List D → Option O
  | [.int i] => some (.val (.int (if i < 0 then -i else i)))
  | _ => none
def intB : List D → Option O
  | [.int i] => some (.val (.int i))
  | [.bl b] => some (.val (.int (if b then 1 else 0)))
  | [.str a] => (PySem.intText? a).bind fun n => if a.length ≤ 640 then some (.val (.int n)) else none
  | _ => none
def strB : List D → Option O
  | [.int i] => if i.natAbs.log2 < 1920 then some (.val (.str (toString i : String))) else none
  | _ => none
def isiB : List D → Option O
  | [d, .ty c] => (tyD d).bind fun t => (isiD t c).map fun b => .val (.bl b)
  | _ => none
def tupleB : List D → Option O
  | [d] => (seqOf d).map fun ds => .val (.tup ds)
  | _ => none
def listB : List D → Option O
  | [d] => (seqOf d).map fun ds => .fr ds
  | _ => none
def max2B : List D → Option O
  | [.int i, .int j] => some (.val (.int (if j > i then j else i)))
  | _ => none
def min2B : List D → Option O
  | [.int i, .int j] => some (.val (.int (if j < i then j else i)))
  | _ => none
def sumB : List D → Option O
  | [.lst ds] => (intsOf ds).map fun ns => .val (.int ns.sum)
  | _ => none
def allB : List D → Option O
  | [.lst ds] => (boolsOf ds).map fun bs => .val (.bl (bs.all id))
  | _ => none
def anyB : List D → Option O
  | [.lst ds] => (boolsOf ds).map fun bs => .val (.bl (bs.any id))
  | _ => none

/-! ### combinators -/
def eBad : Ev := fun _ _ => .bad
def eSlot (i : Nat) : Ev := fun ρ S => match ρ[i]? with
  | some (some (.val d)) => .ok (.val d) S
  | some (some (.ptr r)) => .ok (.ptr r) S
  | _ => .bad
def eC (d : D) : Ev := fun _ S => .ok (.val d) S
def look2 {α : Type} (f : D → D → Option α) (x y : O) (S : Store) : Option α := (look x S).bind fun d => (look y S).bind fun e => f d e
def eBin (op : Operator) (a b : Ev) : Ev := fun ρ S => (a ρ S).bind fun x S1 => (b ρ S1).bind fun y S2 => .of (look2 (binD op) x y S2) S2
def eUn (op : UnaryOp) (a : Ev) : Ev := fun ρ S => (a ρ S).bind fun x S1 => .of ((look x S1).bind (unD op)) S1
def tCmp (op : CmpOp) (a b : Ev) : Tv := fun ρ S => (a ρ S).bind fun x S1 => (b ρ S1).bind fun y S2 => .of (look2 (cmpD op) x y S2) S2
def tCmp2 (op op' : CmpOp) (a b c : Ev) : Tv := fun ρ S => (a ρ S).bind fun x S1 => (b ρ S1).bind fun y S2 => (Out.of (look2 (cmpD op) x y S2) S2).bind fun k S3 => if k = true then (c ρ S3).bind fun z S4 => .of (look2 (cmpD op') y z S4) S4 else .ok false S3
/-- a test as a value -/
def eB (t : Tv) : Ev := fun ρ S => (t ρ S).bind fun b S1 => .ok (.val (.bl b)) S1
def blD : D → Option Bool
  | .bl b => some b
  | _ => none
def eAnd (a b : Ev) : Ev := fun ρ S => (a ρ S).bind fun x S1 => (Out.of ((look x S1).bind blD) S1).bind fun k S2 => if k = true then b ρ S2 else .ok (.val (.bl false)) S2
def eOr (a b : Ev) : Ev := fun ρ S => (a ρ S).bind fun x S1 => (Out.of ((look x S1).bind blD) S1).bind fun k S2 => if k = true then .ok (.val (.bl true)) S2 else b ρ S2
def eNot (a : Ev) : Ev := fun ρ S => (a ρ S).bind fun x S1 => .of (((look x S1).bind truD).map fun k => .val (.bl (!k))) S1
def tVal (a : Ev) : Tv := fun ρ S => (a ρ S).bind fun x S1 => .of ((look x S1).bind truD) S1
def tAnd (a b : Tv) : Tv := fun ρ S => (a ρ S).bind fun k S1 => if k = true then b ρ S1 else .ok false S1
def tOr (a b : Tv) : Tv := fun ρ S => (a ρ S).bind fun k S1 => if k = true then .ok true S1 else b ρ S1
def tNot (a : Tv) : Tv := fun ρ S => (a ρ S).bind fun k S1 => .ok (!k) S1
def tYes : Tv := fun _ S => .ok true S
def eIf (t : Tv) (a b : Ev) : Ev := fun ρ S => (t ρ S).bind fun k S1 => if k = true then a ρ S1 else b ρ S1
/-- the parts of a display, each a datum -/
abbrev Lv := Env → Store → Out (List D)
def lNil : Lv := fun _ S => .ok [] S
def lCons (a : Ev) (l : Lv) : Lv := fun ρ S => (a ρ S).bind fun x S1 => (force x S1).bind fun d S2 => (l ρ S2).bind fun ds S3 => .ok (d :: ds) S3
def eTup (l : Lv) : Ev := fun ρ S => (l ρ S).bind fun ds S1 => if ds.length ≤ sizeLine then .ok (.val (.tup ds)) S1 else .bad
def eLst (l : Lv) : Ev := fun ρ S => (l ρ S).bind fun ds S1 => if ds.length ≤ sizeLine then .ok (.fr ds) S1 else .bad
/-- arguments, handed on -/
def aNil : Av := fun _ S => .ok [] S
def aCons (a : Ev) (l : Av) : Av := fun ρ S => (a ρ S).bind fun x S1 => (l ρ S1).bind fun xs S3 => .ok (norm x :: xs) S3
def eIx (a b : Ev) : Ev := fun ρ S => (a ρ S).bind fun x S1 => (b ρ S1).bind fun y S2 => .of ((look2 ixD x y S2).map .val) S2
def intD : D → Option Int
  | .int i => some i
  | _ => none
abbrev Pv := Env → Store → Out (Option Int)
def pNo : Pv := fun _ S => .ok none S
def pSome (a : Ev) : Pv := fun ρ S => (a ρ S).bind fun x S1 => .of (((look x S1).bind intD).map some) S1
def eSl (a : Ev) (lo hi : Pv) : Ev := fun ρ S => (a ρ S).bind fun x S1 => (lo ρ S1).bind fun l S2 => (hi ρ S2).bind fun h S3 => .of ((look x S3).bind fun d => slD d l h) S3
def lookAll : List O → Store → Option (List D)
  | [], _ => some []
  | o :: os, S => (look o S).bind fun d => (lookAll os S).map (d :: ·)
def eCallB (g : List D → Option O) (l : Av) : Ev := fun ρ S => (l ρ S).bind fun os S1 => .of ((lookAll os S1).bind g) S1
abbrev Cf := Str → List O → Store → Out O
def eCallF (cf : Cf) (f : Str) (l : Av) : Ev := fun ρ S => (l ρ S).bind fun os S1 => cf f os S1

/-! ### statements -/
inductive SO where
  | nx (ρ : Env) (S : Store) | ret (o : O) (S : Store) | brk (ρ : Env) (S : Store) | ct (ρ : Env) (S : Store) | exc (x : Xc) (ρ : Env) (S : Store) | bad
abbrev Sv := Env → Store → SO
def liftS {α : Type} (ρ : Env) (o : Out α) (f : α → Store → SO) : SO := match o with
  | .ok a S => f a S
  | .exc x S => .exc x ρ S
  | .bad => .bad
def SO.seq (o : SO) (f : Env → Store → SO) : SO := match o with
  | .nx ρ S => f ρ S
  | o => o
def sBad : Sv := fun _ _ => .bad
def sNext : Sv := fun ρ S => .nx ρ S
def sBrk : Sv := fun ρ S => .brk ρ S
def sCt : Sv := fun ρ S => .ct ρ S
def sSeq (a b : Sv) : Sv := fun ρ S => (a ρ S).seq b
def sIf (t : Tv) (a b : Sv) : Sv := fun ρ S => liftS ρ (t ρ S) fun k S1 => if k = true then a ρ S1 else b ρ S1
def sRet (e : Ev) : Sv := fun ρ S => liftS ρ (e ρ S) fun o S1 => .ret o S1
def sRetN : Sv := fun ρ S => .ret (.val .non) S
def sDrop (e : Ev) : Sv := fun ρ S => liftS ρ (e ρ S) fun _ S1 => .nx ρ S1
/-- x = e -/
def sSet (i : Nat) (e : Ev) : Sv := fun ρ S => liftS ρ (e ρ S) fun o S1 => if i < ρ.length then .nx (ρ.set i (some (norm o))) S1 else .bad
/-- x = e, a new list becomes x's own -/
def sSetM (i : Nat) (e : Ev) : Sv := fun ρ S => liftS ρ (e ρ S) fun o S1 => if i < ρ.length then (match o with
  | .fr ds => .nx (ρ.set i (some (.ptr S1.length))) (S1 ++ [.lst ds])
  | o => .nx (ρ.set i (some o)) S1) else .bad
/-- x op= e -/
def sAug (i : Nat) (op : Operator) (e : Ev) : Sv := fun ρ S => liftS ρ ((eSlot i ρ S).bind fun x S0 => (e ρ S0).bind fun y S1 => .of (look2 (binD op) x y S1) S1) fun o S1 => match o with
  | .val d => .nx (ρ.set i (some (.val d))) S1
  | _ => .bad
/-- the owned list in slot i -/
def ownAt (i : Nat) (ρ : Env) (S : Store) : Option (Nat × List D) := match ρ[i]? with
  | some (some (.ptr r)) => match S[r]? with
    | some (.lst ds) => some (r, ds)
    | _ => none
  | _ => none
/-- x.append(e) -/
def sApp (i : Nat) (e : Ev) : Sv := fun ρ S => if (ownAt i ρ S).isSome = true then liftS ρ ((e ρ S).bind fun o S1 => force o S1) fun d S1 => match ownAt i ρ S1 with
  | some (r, ds) => if ds.length < sizeLine then .nx ρ (S1.set r (.lst (ds ++ [d]))) else .bad
  | none => .bad else .bad
/-- x[a] = e -/
def sSetIx (i : Nat) (a e : Ev) : Sv := fun ρ S => if (ownAt i ρ S).isSome = true then liftS ρ ((e ρ S).bind fun o S1 => (force o S1).bind fun d S2 => (a ρ S2).bind fun y S3 => (Out.of ((look y S3).bind intD) S3).bind fun k S4 => .ok (d, k) S4) fun p S1 => match ownAt i ρ S1 with
  | some (r, ds) => match L2.ixN ds.length p.2 with
    | some j => .nx ρ (S1.set r (.lst (ds.set j p.1)))
    | none => .bad
  | none => .bad else .bad
/-! ### targets, what is walked -/
abbrev Gv := D → Env → Option Env
def gNm (i : Nat) : Gv := fun d ρ => if i < ρ.length then some (ρ.set i (some (.val d))) else none
def tupOf : D → Option (List D)
  | .tup ds => some ds
  | _ => none
def gNms : List Nat → List D → Env → Option Env
  | [], [], ρ => some ρ
  | i :: is, d :: ds, ρ => (gNm i d ρ).bind (gNms is ds)
  | _, _, _ => none
def gTp (is : List Nat) : Gv := fun d ρ => (tupOf d).bind fun ds => gNms is ds ρ
def itemsOf : D → Option (List D)
  | .lst ds => some ds
  | .wls ds => some ds
  | .tup ds => some ds
  | _ => none
/-- .. the signs of a text -/
def itemsS : D → Option (List D)
  | .str s => some (s.cps.toList.map fun c => .str ⟨#[c]⟩)
  | d => itemsOf d
/-- a list, a tuple or a text walked: it is given up -/
def iVal (e : Ev) : Lv := fun ρ S => (e ρ S).bind fun o S1 => (force o S1).bind fun d S2 => .of (itemsS d) S2
def rngD (lo : Int) (n : Nat) : List D := (List.range n).map fun i : Nat => .int (lo + (i : Int))
def iRng1 (e : Ev) : Lv := fun ρ S => (e ρ S).bind fun o S1 => (Out.of ((look o S1).bind intD) S1).bind fun j S2 => if -(2 ^ 62) ≤ j ∧ j < 2 ^ 62 then .ok (rngD 0 j.toNat) S2 else .bad
def iRng2 (a b : Ev) : Lv := fun ρ S => (a ρ S).bind fun o S1 => (b ρ S1).bind fun o2 S2 => (Out.of ((look o S2).bind intD) S2).bind fun i S3 => (Out.of ((look o2 S3).bind intD) S3).bind fun j S4 => if -(2 ^ 62) ≤ i ∧ i < 2 ^ 62 ∧ -(2 ^ 62) ≤ j ∧ j < 2 ^ 62 then .ok (rngD i (j - i).toNat) S4 else .bad
def loopK (o : SO) (k : Env → Store → SO) : SO := match o with
  | .nx ρ S => k ρ S
  | .ct ρ S => k ρ S
  | .brk ρ S => .nx ρ S
  | o => o
def optS (o : Option Env) (k : Env → SO) : SO := match o with
  | none => .bad
  | some ρ => k ρ
def forI (g : Gv) (body : Sv) : List D → Env → Store → SO
  | [], ρ, S => .nx ρ S
  | d :: ds, ρ, S => optS (g d ρ) fun ρ1 => loopK (body ρ1 S) (forI g body ds)
def sFor (g : Gv) (it : Lv) (body : Sv) : Sv := fun ρ S => liftS ρ (it ρ S) fun ds S1 => forI g body ds ρ S1
def whileI (t : Tv) (body : Sv) : Nat → Env → Store → SO
  | 0, _, _ => .bad
  | n + 1, ρ, S => liftS ρ (t ρ S) fun k S1 => if k = true then loopK (body ρ S1) (whileI t body n) else .nx ρ S1
def sWhile (m : Nat) (t : Tv) (body : Sv) : Sv := whileI t body m
/-- [e for g in it if t] -/
def compI (g : Gv) (t : Tv) (e : Ev) (ρ : Env) : List D → Store → Out (List D)
  | [], S => .ok [] S
  | d :: ds, S => match g d ρ with
    | none => .bad
    | some ρ1 => (t ρ1 S).bind fun k S1 => if k = true then (e ρ1 S1).bind fun o S2 => (force o S2).bind fun x S3 => (compI g t e ρ ds S3).bind fun xs S4 => .ok (x :: xs) S4 else compI g t e ρ ds S1
def noX {α : Type} : Out α → Out α
  | .exc _ _ => .bad
  | o => o
def wipeE (ρ : Env) : List Nat → Env
  | [] => ρ
  | v :: vs => (wipeE ρ vs).set v none
def eComp (own : List Nat) (g : Gv) (it : Lv) (t : Tv) (e : Ev) : Ev := fun ρ S => (it ρ S).bind fun ds S1 => if ds.length < sizeLine then (noX (compI g t e (wipeE ρ own) ds S1)).bind fun xs S2 => .ok (.fr xs) S2 else .bad
/-- a def's body on its arguments: its own cells are given up -/
def endF (n : Nat) : SO → Out O
  | .ret (.val d) S => .ok (.val d) (S.take n)
  | .ret (.fr ds) S => .ok (.fr ds) (S.take n)
  | .ret (.ptr r) S => if r < n then .ok (.ptr r) (S.take n) else (match S[r]? with
    | some (.lst ds) => .ok (.fr ds) (S.take n)
    | some (.frz ds) => .ok (.val (.lst ds)) (S.take n)
    | none => .bad)
  | .nx _ S => .ok (.val .non) (S.take n)
  | .exc x _ S => .exc x (S.take n)
  | _ => .bad
def runF (many : Nat) (body : Sv) (os : List O) (S : Store) : Out O := endF S.length (body (os.map some ++ List.replicate (many - os.length) none) S)

/-! ### exceptions -/
def sRaise (nm : Str) (fields : List Str) (l : Lv) : Sv := fun ρ S => liftS ρ (l ρ S) fun ds S1 => if ds.length = fields.length then .exc ⟨nm, fields.zip ds⟩ ρ S1 else .bad
def noXS : SO → SO
  | .exc _ _ _ => .bad
  | o => o
def unsetS (i : Nat) : SO → SO
  | .nx ρ S => .nx (ρ.set i none) S
  | .brk ρ S => .brk (ρ.set i none) S
  | .ct ρ S => .ct (ρ.set i none) S
  | o => o
def sTryAs (m : Str → Option Bool) (i : Nat) (body : Sv) (suite : Xc → Sv) : Sv := fun ρ S => match body ρ S with
  | .exc x ρ1 S1 => match m x.cls with
    | some true => unsetS i (noXS (suite x (ρ1.set i none) S1))
    | some false => .exc x ρ1 S1
    | none => .bad
  | o => o
def sTry (m : Str → Option Bool) (body : Sv) (suite : Xc → Sv) : Sv := fun ρ S => match body ρ S with
  | .exc x ρ1 S1 => match m x.cls with
    | some true => noXS (suite x ρ1 S1)
    | some false => .exc x ρ1 S1
    | none => .bad
  | o => o
/-- e.f of the handled exception -/
def eXf (i : Nat) (x : Xc) (f : Str) : Ev := fun ρ S => match ρ[i]? with
  | some none => .of ((x.fs.lookup f).map .val) S
  | _ => .bad
end
end UI
namespace UI
open PySem L2

/-! ### what stands for what -/
mutual
def Rep (K : PySem.W.Frag) (H : Hp) : D → V → Prop
  | .non, v => v = .non
  | .bl b, v => v = .bl b
  | .int i, v => v = .int i
  | .str s, v => v = .str s
  | .ty n, v => v = .ty n
  | .glo x, v => v = .ref (He.ga K x)
  | .tup ds, v => ∃ a vs, v = .ref a ∧ SqT K H a vs ∧ RepL K H ds vs
  | .lst ds, v => ∃ a vs, v = .ref a ∧ H a = some (.lst vs) ∧ RepL K H ds vs
  | .wls ds, v => ∃ a vs, v = .ref a ∧ SqL K H a vs ∧ RepL K H ds vs
def RepL (K : PySem.W.Frag) (H : Hp) : List D → List V → Prop
  | [], vs => vs = []
  | d :: ds, vs => ∃ v r, vs = v :: r ∧ Rep K H d v ∧ RepL K H ds r
end
/-- H' holds what H holds -/
def Sub (H H' : Hp) : Prop := ∀ a o, H a = some o → H' a = some o
theorem Sub.refl (H : Hp) : Sub H H := fun _ _ h => h
theorem Sub.trans {H H1 H2 : Hp} (a : Sub H H1) (b : Sub H1 H2) : Sub H H2 := fun x o h => b x o (a x o h)
theorem Sub.new {H : Hp} {p : Addr} {o : HO} (h : H p = none) : Sub H (upd H p o) := fun a u e => by
  rw [upd_ne (ne_of_none e h)]
  exact e
theorem sub_t {K : PySem.W.Frag} {H H' : Hp} {a : Addr} {xs : List V} (e : Sub H H') (h : SqT K H a xs) : SqT K H' a xs := by
  rcases h with (h | ⟨o, h⟩) | h
  · exact .inl (.inl (e _ _ h))
  · exact .inl (.inr ⟨o, e _ _ h⟩)
  · exact .inr h
theorem sub_l {K : PySem.W.Frag} {H H' : Hp} {a : Addr} {xs : List V} (e : Sub H H') (h : SqL K H a xs) : SqL K H' a xs := by
  rcases h with (h | ⟨o, h⟩) | h
  · exact .inl (.inl (e _ _ h))
  · exact .inl (.inr ⟨o, e _ _ h⟩)
  · exact .inr h
mutual
theorem Rep.mono {K : PySem.W.Frag} {H H' : Hp} (e : Sub H H') : ∀ (d : D) (v : V), Rep K H d v → Rep K H' d v
  | .non, v, h => by simpa only [Rep] using h
  | .bl b, v, h => by simpa only [Rep] using h
  | .int i, v, h => by simpa only [Rep] using h
  | .str s, v, h => by simpa only [Rep] using h
  | .ty n, v, h => by simpa only [Rep] using h
  | .glo x, v, h => by simpa only [Rep] using h
  | .tup ds, v, h => by
    simp only [Rep] at h ⊢
    obtain ⟨a, vs, rfl, h1, h2⟩ := h
    exact ⟨a, vs, rfl, sub_t e h1, RepL.mono e ds vs h2⟩
  | .lst ds, v, h => by
    simp only [Rep] at h ⊢
    obtain ⟨a, vs, rfl, h1, h2⟩ := h
    exact ⟨a, vs, rfl, e _ _ h1, RepL.mono e ds vs h2⟩
  | .wls ds, v, h => by
    simp only [Rep] at h ⊢
    obtain ⟨a, vs, rfl, h1, h2⟩ := h
    exact ⟨a, vs, rfl, sub_l e h1, RepL.mono e ds vs h2⟩
theorem RepL.mono {K : PySem.W.Frag} {H H' : Hp} (e : Sub H H') : ∀ (ds : List D) (vs : List V), RepL K H ds vs → RepL K H' ds vs
  | [], vs, h => by simpa only [RepL] using h
  | d :: ds, vs, h => by
    simp only [RepL] at h ⊢
    obtain ⟨v, r, rfl, h1, h2⟩ := h
    exact ⟨v, r, rfl, Rep.mono e d v h1, RepL.mono e ds r h2⟩
end
section
variable {K : PySem.W.Frag} {H H' : Hp}
theorem RepL.nil : RepL K H [] [] := by simp only [RepL]
theorem RepL.cons {d : D} {ds : List D} {v : V} {vs : List V} (h1 : Rep K H d v) (h2 : RepL K H ds vs) : RepL K H (d :: ds) (v :: vs) := by
  simp only [RepL]
  exact ⟨v, vs, rfl, h1, h2⟩
theorem RepL.length : ∀ {ds : List D} {vs : List V}, RepL K H ds vs → vs.length = ds.length
  | [], vs, h => by
    simp only [RepL] at h
    rw [h]; rfl
  | d :: ds, vs, h => by
    simp only [RepL] at h
    obtain ⟨v, r, rfl, _, h2⟩ := h
    rw [List.length_cons, List.length_cons, RepL.length h2]
theorem RepL.get : ∀ {ds : List D} {vs : List V} {i : Nat} {d : D}, RepL K H ds vs → ds[i]? = some d → ∃ v, vs[i]? = some v ∧ Rep K H d v
  | [], _, _, _, _, e => by simp at e
  | d :: ds, vs, 0, d', h, e => by
    simp only [RepL] at h
    obtain ⟨v, r, rfl, h1, _⟩ := h
    simp at e
    subst e
    exact ⟨v, rfl, h1⟩
  | d :: ds, vs, i + 1, d', h, e => by
    simp only [RepL] at h
    obtain ⟨v, r, rfl, _, h2⟩ := h
    obtain ⟨w, h3, h4⟩ := RepL.get (i := i) h2 (by simpa using e)
    exact ⟨w, by simpa using h3, h4⟩
theorem RepL.append : ∀ {ds es : List D} {vs ws : List V}, RepL K H ds vs → RepL K H es ws → RepL K H (ds ++ es) (vs ++ ws)
  | [], es, vs, ws, h, h' => by
    simp only [RepL] at h
    subst h
    exact h'
  | d :: ds, es, vs, ws, h, h' => by
    simp only [RepL] at h
    obtain ⟨v, r, rfl, h1, h2⟩ := h
    exact .cons h1 (RepL.append h2 h')
theorem RepL.one {d : D} {v : V} (h : Rep K H d v) : RepL K H [d] [v] := .cons h .nil
theorem RepL.drop : ∀ {ds : List D} {vs : List V} (n : Nat), RepL K H ds vs → RepL K H (ds.drop n) (vs.drop n)
  | _, _, 0, h => by simpa using h
  | [], vs, n + 1, h => by
    simp only [RepL] at h
    subst h
    simp only [List.drop_nil]
    exact .nil
  | d :: ds, vs, n + 1, h => by
    simp only [RepL] at h
    obtain ⟨v, r, rfl, _, h2⟩ := h
    simpa using RepL.drop n h2
theorem RepL.take : ∀ {ds : List D} {vs : List V} (n : Nat), RepL K H ds vs → RepL K H (ds.take n) (vs.take n)
  | _, _, 0, h => by simpa using RepL.nil
  | [], vs, n + 1, h => by
    simp only [RepL] at h
    subst h
    simp only [List.take_nil]
    exact .nil
  | d :: ds, vs, n + 1, h => by
    simp only [RepL] at h
    obtain ⟨v, r, rfl, h1, h2⟩ := h
    simpa using RepL.cons h1 (RepL.take n h2)
theorem RepL.set : ∀ {ds : List D} {vs : List V} (n : Nat) {d : D} {v : V}, RepL K H ds vs → Rep K H d v → RepL K H (ds.set n d) (vs.set n v)
  | [], vs, n, d, v, h, _ => by
    simp only [RepL] at h
    subst h
    simpa using RepL.nil
  | e :: ds, vs, 0, d, v, h, h' => by
    simp only [RepL] at h
    obtain ⟨w, r, rfl, h1, h2⟩ := h
    simpa using RepL.cons h' h2
  | e :: ds, vs, n + 1, d, v, h, h' => by
    simp only [RepL] at h
    obtain ⟨w, r, rfl, h1, h2⟩ := h
    simpa using RepL.cons h1 (RepL.set n h2 h')
theorem RepL.reps {ds : List D} {vs : List V} (h : RepL K H ds vs) : ∀ n : Nat, RepL K H (List.replicate n ds).flatten (List.replicate n vs).flatten
  | 0 => by simpa using RepL.nil
  | n + 1 => by
    simp only [List.replicate_succ, List.flatten_cons]
    exact h.append (RepL.reps h n)
theorem RepL.snoc_inv {ds : List D} {d : D} {ws : List V} (h : RepL K H (ds ++ [d]) ws) : ∃ vs v, ws = vs ++ [v] ∧ RepL K H ds vs ∧ Rep K H d v := by
  induction ds generalizing ws with
  | nil =>
    simp only [List.nil_append, RepL] at h
    obtain ⟨v, r, rfl, h1, rfl⟩ := h
    exact ⟨[], v, rfl, .nil, h1⟩
  | cons e ds ih =>
    simp only [List.cons_append, RepL] at h
    obtain ⟨v, r, rfl, h1, h2⟩ := h
    obtain ⟨vs, w, rfl, h3, h4⟩ := ih h2
    exact ⟨v :: vs, w, rfl, .cons h1 h3, h4⟩
end

/-! ### the cells -/
def isOwn : Option Cl → Bool
  | some (.lst _) => true
  | _ => false
/-- the cells' addresses; addresses that are not spoken of at all -/
structure Fm where
  as : List Addr
  z : Addr → Prop
/-- the address is an owned cell's, or not spoken of -/
def ownA (φ : Fm) (S : Store) (a : Addr) : Prop := φ.z a ∨ ∃ r : Nat, φ.as[r]? = some a ∧ isOwn S[r]? = true
open Classical in
/-- the heap without the owned cells -/
noncomputable def hid (φ : Fm) (S : Store) (H : Hp) : Hp := fun a => if ownA φ S a then none else H a
theorem hid_sub {φ : Fm} {S : Store} {H : Hp} : Sub (hid φ S H) H := fun a o h => by
  unfold hid at h
  split at h
  · cases h
  · exact h
theorem hid_of {φ : Fm} {S : Store} {H : Hp} {a : Addr} {o : HO} (n : ¬ ownA φ S a) (h : H a = some o) : hid φ S H a = some o := by
  unfold hid
  rw [if_neg n]
  exact h
theorem hid_own {φ : Fm} {S : Store} {H : Hp} {a : Addr} (n : ownA φ S a) : hid φ S H a = none := by
  unfold hid
  rw [if_pos n]
theorem hid_inv {φ : Fm} {S : Store} {H : Hp} {a : Addr} {o : HO} (h : hid φ S H a = some o) : ¬ ownA φ S a ∧ H a = some o := by
  unfold hid at h
  split at h
  · cases h
  · exact ⟨by assumption, h⟩
/-- the cells are as the store says -/
structure Cells (K : PySem.W.Frag) (φ : Fm) (S : Store) (H : Hp) : Prop where
  len : φ.as.length = S.length
  nd : φ.as.Nodup
  zt : ∀ a, φ.z a → H a ≠ none
  zd : ∀ (r : Nat) (a : Addr), φ.as[r]? = some a → ¬ φ.z a
  at_ : ∀ (r : Nat) (a : Addr), φ.as[r]? = some a → ∃ vs, H a = some (.lst vs) ∧ (∀ ds, S[r]? = some (.lst ds) → RepL K (hid φ S H) ds vs) ∧ (∀ ds, S[r]? = some (.frz ds) → RepL K (hid φ S H) ds vs)
/-- del a -/
def dl (H : Hp) (a : Addr) : Hp := fun b => if b = a then none else H b
theorem dl_sub {H : Hp} {a : Addr} : Sub (dl H a) H := fun b o h => by
  unfold dl at h
  split at h
  · cases h
  · exact h
theorem dl_of {H : Hp} {a b : Addr} {o : HO} (h : H b = some o) (n : b ≠ a) : dl H a b = some o := by
  unfold dl
  rw [if_neg n]
  exact h
/-- what an operand is: H₀ the heap when its making began, H the heap now -/
def OOkW (K : PySem.W.Frag) (φ : Fm) (H₀ : Hp) (S : Store) (H : Hp) : O → V → Prop
  | .val d, v => Rep K (hid φ S H) d v
  | .fr ds, v => ∃ a vs, v = .ref a ∧ H₀ a = none ∧ H a = some (.lst vs) ∧ RepL K (dl (hid φ S H) a) ds vs
  | .ptr r, v => ∃ a, v = .ref a ∧ φ.as[r]? = some a
def clL : Cl → List D
  | .lst ds => ds
  | .frz ds => ds
/-- no cell holds what is at a -/
def CD (K : PySem.W.Frag) (φ : Fm) (S : Store) (H : Hp) (a : Addr) : Prop := ∀ (r : Nat) (b : Addr) (c : Cl) (ws : List V), φ.as[r]? = some b → S[r]? = some c → H b = some (.lst ws) → RepL K (dl (hid φ S H) a) (clL c) ws
/-- .. at the end of its making: a new list is in no cell -/
def OOk (K : PySem.W.Frag) (φ : Fm) (H₀ : Hp) (S : Store) (H : Hp) : O → V → Prop
  | .val d, v => Rep K (hid φ S H) d v
  | .fr ds, v => ∃ a vs, v = .ref a ∧ H₀ a = none ∧ H a = some (.lst vs) ∧ RepL K (dl (hid φ S H) a) ds vs ∧ CD K φ S H a
  | .ptr r, v => ∃ a, v = .ref a ∧ φ.as[r]? = some a
theorem OOk.w {K : PySem.W.Frag} {φ : Fm} {H₀ : Hp} {S : Store} {H : Hp} {o : O} {v : V} (h : OOk K φ H₀ S H o v) : OOkW K φ H₀ S H o v := by
  cases o with
  | val d => exact h
  | ptr r => exact h
  | fr ds =>
    obtain ⟨a, vs, h1, h2, h3, h4, _⟩ := h
    exact ⟨a, vs, h1, h2, h3, h4⟩
/-- a step: nothing that is not an owned cell was changed -/
structure Stp (K : PySem.W.Frag) (φ : Fm) (S : Store) (H : Hp) (S' : Store) (H' : Hp) : Prop where
  sub : Sub (hid φ S H) (hid φ S' H')
  cells : Cells K φ S' H'
  ex : ∀ a, H a ≠ none → H' a ≠ none
  keep : ∀ a, φ.z a → H' a = H a
theorem Stp.refl {K : PySem.W.Frag} {φ : Fm} {S : Store} {H : Hp} (c : Cells K φ S H) : Stp K φ S H S H := ⟨.refl _, c, fun _ h => h, fun _ _ => rfl⟩
theorem Stp.trans {K : PySem.W.Frag} {φ : Fm} {S S1 S2 : Store} {H H1 H2 : Hp} (a : Stp K φ S H S1 H1) (b : Stp K φ S1 H1 S2 H2) : Stp K φ S H S2 H2 :=
  ⟨a.sub.trans b.sub, b.cells, fun x h => b.ex x (a.ex x h), fun x h => (b.keep x h).trans (a.keep x h)⟩
section
variable {K : PySem.W.Frag} {φ : Fm} {S S' S1 S2 S₀ : Store} {H H' H₀ H1 H2 : Hp}
theorem own_some (c : Cells K φ S H) {a : Addr} {r : Nat} (h : φ.as[r]? = some a) : H a ≠ none := by
  obtain ⟨vs, e, _⟩ := c.at_ r a h
  rw [e]
  simp
/-- a value made later is not of what stood ahead -/
theorem new_ne (c : Cells K φ S H) {a : Addr} (h : H a = none) : ∀ r : Nat, φ.as[r]? ≠ some a := fun r e => own_some c e h
theorem new_notOwn (c : Cells K φ S H) {a : Addr} (h : H a = none) : ¬ ownA φ S' a := fun q => q.elim (fun z => c.zt a z h) fun ⟨r, e, _⟩ => new_ne c h r e
theorem sub_dl {a : Addr} (h : Sub H H') (hn : H a = none) : Sub H (dl H' a) := fun b o e => dl_of (h b o e) (ne_of_none e hn)
theorem hid_none {a : Addr} (h : H a = none) : hid φ S H a = none := by
  unfold hid
  split
  · rfl
  · exact h
/-- an operand stays what it is -/
theorem OOkW.step (o : O) (v : V) (h : OOkW K φ H₀ S H o v) (c : Cells K φ S₀ H₀) (s : Stp K φ S H S' H') : OOkW K φ H₀ S' H' o v := by
  cases o with
  | val d => exact Rep.mono s.sub d v h
  | fr ds =>
    obtain ⟨a, vs, rfl, h0, h1, h2⟩ := h
    have hh : hid φ S H a = some (.lst vs) := hid_of (new_notOwn c h0) h1
    refine ⟨a, vs, rfl, h0, (hid_inv (s.sub _ _ hh)).2, ?_⟩
    refine RepL.mono (fun b o e => ?_) ds vs h2
    have hb : b ≠ a := fun z => by
      rw [z] at e
      unfold dl at e
      rw [if_pos rfl] at e
      cases e
    exact dl_of (s.sub _ _ (dl_sub _ _ e)) hb
  | ptr r => exact h
theorem OOk.step (o : O) (v : V) (h : OOk K φ H₀ S H o v) (c : Cells K φ S₀ H₀) (s : Stp K φ S H S' H') : OOkW K φ H₀ S' H' o v := h.w.step o v c s
theorem OOk.back {o : O} {v : V} (h : OOk K φ H1 S H o v) (e : ∀ a, H₀ a ≠ none → H1 a ≠ none) : OOk K φ H₀ S H o v := by
  cases o with
  | val d => exact h
  | ptr r => exact h
  | fr ds =>
    obtain ⟨a, vs, rfl, h0, h1, h2, h3⟩ := h
    refine ⟨a, vs, rfl, ?_, h1, h2, h3⟩
    cases q : H₀ a with
    | none => rfl
    | some o => exact absurd h0 (e a (by rw [q]; simp))
/-- the top of a datum as it is now, the parts where nothing changes -/
def RepT (K : PySem.W.Frag) (Hh H : Hp) : D → V → Prop
  | .lst ds, v => ∃ a vs, v = .ref a ∧ H a = some (.lst vs) ∧ RepL K Hh ds vs
  | d, v => Rep K Hh d v
theorem RepT.rep {d : D} {v : V} (h : RepT K (hid φ S H) H d v) : Rep K H d v := by
  cases d with
  | lst ds =>
    obtain ⟨a, vs, rfl, h1, h2⟩ := h
    simp only [Rep]
    exact ⟨a, vs, rfl, h1, RepL.mono hid_sub _ _ h2⟩
  | _ => exact Rep.mono (H := hid φ S H) hid_sub _ _ h
theorem RepT.of {d : D} {v : V} (h : Rep K (hid φ S H) d v) : RepT K (hid φ S H) H d v := by
  cases d with
  | lst ds =>
    simp only [Rep] at h
    obtain ⟨a, vs, rfl, h1, h2⟩ := h
    exact ⟨a, vs, rfl, hid_sub _ _ h1, h2⟩
  | _ => exact h
theorem look_ok {o : O} {d : D} {v : V} (h : OOkW K φ H₀ S H o v) (c : Cells K φ S H) (e : look o S = some d) : RepT K (hid φ S H) H d v := by
  cases o with
  | val d' =>
    cases e
    exact .of h
  | fr ds =>
    cases e
    obtain ⟨a, vs, rfl, h0, h1, h2⟩ := h
    exact ⟨a, vs, rfl, h1, RepL.mono dl_sub _ _ h2⟩
  | ptr r =>
    obtain ⟨a, rfl, ha⟩ := h
    obtain ⟨vs, h1, h2, h3⟩ := c.at_ r a ha
    have e' : cellD S[r]? = some d := e
    cases q : S[r]? with
    | none =>
      rw [q] at e'
      cases e'
    | some c' =>
      rw [q] at e'
      cases c' with
      | lst ds =>
        cases e'
        exact ⟨a, vs, rfl, h1, h2 ds q⟩
      | frz ds =>
        cases e'
        exact ⟨a, vs, rfl, h1, h3 ds q⟩
theorem norm_ok {o : O} {v : V} (h : OOkW K φ H₀ S H o v) (c : Cells K φ S₀ H₀) : OOk K φ H₀ S H (norm o) v := by
  cases o with
  | val d => exact h
  | ptr r => exact h
  | fr ds =>
    obtain ⟨a, vs, rfl, h0, h1, h2⟩ := h
    show Rep K (hid φ S H) (.lst ds) (.ref a)
    simp only [Rep]
    exact ⟨a, vs, rfl, hid_of (new_notOwn c h0) h1, RepL.mono dl_sub _ _ h2⟩
theorem isOwn_set {r r' : Nat} {ds : List D} (h : isOwn (S.set r (.frz ds))[r']? = true) : isOwn S[r']? = true := by
  rw [List.getElem?_set] at h
  split at h
  · split at h
    · cases h
    · cases h
  · exact h
theorem ownA_frz {r : Nat} {ds : List D} {a : Addr} (h : ownA φ (S.set r (.frz ds)) a) : ownA φ S a := by
  rcases h with h | ⟨r', e, q⟩
  · exact .inl h
  · exact .inr ⟨r', e, isOwn_set q⟩
theorem sub_frz {r : Nat} {ds : List D} : Sub (hid φ S H) (hid φ (S.set r (.frz ds)) H) := fun a o h => by
  obtain ⟨n, e⟩ := hid_inv h
  exact hid_of (fun z => n (ownA_frz z)) e
theorem nodup_get {φ : List Addr} (nd : φ.Nodup) {r r' : Nat} {a : Addr} (h : φ[r]? = some a) (h' : φ[r']? = some a) : r = r' := by
  obtain ⟨h1, e1⟩ := List.getElem?_eq_some_iff.mp h
  obtain ⟨h2, e2⟩ := List.getElem?_eq_some_iff.mp h'
  exact (List.getElem_inj nd).mp (e1.trans e2.symm)
theorem force_ok {o : O} {d : D} {v : V} {S' : Store} (h : OOkW K φ H₀ S H o v) (c₀ : Cells K φ S₀ H₀) (c : Cells K φ S H) (e : force o S = .ok d S') : Stp K φ S H S' H ∧ Rep K (hid φ S' H) d v := by
  cases o with
  | val d' =>
    cases e
    exact ⟨.refl c, h⟩
  | fr ds =>
    cases e
    exact ⟨.refl c, norm_ok (o := .fr ds) h c₀⟩
  | ptr r =>
    obtain ⟨a, rfl, ha⟩ := h
    obtain ⟨vs, h1, h2, h3⟩ := c.at_ r a ha
    have e' : forceC S r S[r]? = .ok d S' := e
    cases q : S[r]? with
    | none =>
      rw [q] at e'
      cases e'
    | some c' =>
      rw [q] at e'
      cases c' with
      | lst ds =>
        cases e'
        have hl : r < S.length := (List.getElem?_eq_some_iff.mp q).1
        have own' : ¬ ownA φ (S.set r (.frz ds)) a := fun q => q.elim (c.zd r a ha) fun ⟨r', e1, e2⟩ => by
          have := nodup_get c.nd ha e1
          subst this
          rw [List.getElem?_set_self hl] at e2
          cases e2
        refine ⟨⟨sub_frz, ⟨by rw [List.length_set]; exact c.len, c.nd, c.zt, c.zd, fun r' a' ha' => ?_⟩, fun _ z => z, fun _ _ => rfl⟩, ?_⟩
        · obtain ⟨vs', g1, g2, g3⟩ := c.at_ r' a' ha'
          refine ⟨vs', g1, fun es q' => ?_, fun es q' => ?_⟩
          · rw [List.getElem?_set] at q'
            split at q'
            · first
                | cases q'
                | (split at q' <;> cases q')
            · exact RepL.mono sub_frz _ _ (g2 es q')
          · rw [List.getElem?_set] at q'
            split at q'
            · rename_i er
              subst er
              have q2 : some (Cl.frz ds) = some (Cl.frz es) := by
                first
                  | exact q'
                  | (split at q'
                     · exact q'
                     · cases q')
              cases q2
              have : a' = a := Option.some.inj (ha'.symm.trans ha)
              subst this
              rw [h1] at g1
              cases g1
              exact RepL.mono sub_frz _ _ (h2 ds q)
            · exact RepL.mono sub_frz _ _ (g3 es q')
        · simp only [Rep]
          exact ⟨a, vs, rfl, hid_of own' h1, RepL.mono sub_frz _ _ (h2 ds q)⟩
      | frz ds =>
        cases e'
        refine ⟨.refl c, ?_⟩
        simp only [Rep]
        refine ⟨a, vs, rfl, hid_of (fun q' => q'.elim (c.zd r a ha) fun ⟨r', e1, e2⟩ => ?_) h1, h3 ds q⟩
        have := nodup_get c.nd ha e1
        subst this
        rw [q] at e2
        cases e2
end
end UI
namespace UI
open PySem L2
section
variable {K : PySem.W.Frag} {φ : Fm} {S S' S1 S2 S₀ : Store} {H H' H₀ H1 H2 : Hp}
/-- a new object is laid -/
theorem Cells.new (c : Cells K φ S H) {p : Addr} {o : HO} (hp : H p = none) : Cells K φ S (upd H p o) := by
  have hs : Sub (hid φ S H) (hid φ S (upd H p o)) := fun a u e => by
    obtain ⟨n, e⟩ := hid_inv e
    exact hid_of n (Sub.new hp a u e)
  refine ⟨c.len, c.nd, fun a z => ?_, c.zd, fun r a ha => ?_⟩
  · cases q : H a with
    | none => exact absurd q (c.zt a z)
    | some u => rw [Sub.new hp a u q]; simp
  obtain ⟨vs, h1, h2, h3⟩ := c.at_ r a ha
  exact ⟨vs, Sub.new hp _ _ h1, fun ds q => RepL.mono hs _ _ (h2 ds q), fun ds q => RepL.mono hs _ _ (h3 ds q)⟩
theorem Stp.new (c : Cells K φ S H) {p : Addr} {o : HO} (hp : H p = none) : Stp K φ S H S (upd H p o) := by
  refine ⟨fun a u e => ?_, c.new hp, fun a h => ?_, fun a z => upd_ne fun e => c.zt a z (by rw [e]; exact hp)⟩
  · obtain ⟨n, e⟩ := hid_inv e
    exact hid_of n (Sub.new hp a u e)
  · cases q : H a with
    | none => exact absurd q h
    | some u => rw [Sub.new hp a u q]; simp
theorem OOk.newL (c : Cells K φ S H) {p : Addr} {ds : List D} {vs : List V} (hp : H p = none) (r : RepL K (hid φ S H) ds vs) : OOk K φ H S (upd H p (.lst vs)) (.fr ds) (.ref p) := by
  have sb : Sub (hid φ S H) (dl (hid φ S (upd H p (.lst vs))) p) := fun a u e => by
    obtain ⟨n, e⟩ := hid_inv e
    exact dl_of (hid_of n (Sub.new hp a u e)) (ne_of_none e hp)
  refine ⟨p, vs, rfl, hp, upd_same, RepL.mono sb _ _ r, fun r b cl ws h1 h2 h3 => ?_⟩
  obtain ⟨ws', g1, g2, g3⟩ := c.at_ r b h1
  rw [Sub.new hp _ _ g1] at h3
  cases h3
  cases cl with
  | lst es => exact RepL.mono sb _ _ (g2 es h2)
  | frz es => exact RepL.mono sb _ _ (g3 es h2)
theorem OOk.newT (c : Cells K φ S H) {p : Addr} {ds : List D} {vs : List V} (hp : H p = none) (r : RepL K (hid φ S H) ds vs) : OOk K φ H S (upd H p (.tup vs)) (.val (.tup ds)) (.ref p) := by
  show Rep K _ (.tup ds) (.ref p)
  simp only [Rep]
  have hh : hid φ S (upd H p (.tup vs)) p = some (.tup vs) := hid_of (new_notOwn c hp) upd_same
  exact ⟨p, vs, rfl, .inl (.inl hh), RepL.mono (Stp.new c hp).sub _ _ r⟩

/-! ### data for == -/
mutual
theorem rep_dp {K : PySem.W.Frag} {H : Hp} : ∀ (d : D) (v : V) (p : PyData), Rep K H d v → toPy d = some p → Dp K H v p
  | .non, v, p, h, e => by simp only [Rep] at h; simp only [toPy, Option.some.injEq] at e; subst h e; exact .non
  | .bl b, v, p, h, e => by simp only [Rep] at h; simp only [toPy, Option.some.injEq] at e; subst h e; exact .bl b
  | .int i, v, p, h, e => by simp only [Rep] at h; simp only [toPy, Option.some.injEq] at e; subst h e; exact .int i
  | .str s, v, p, h, e => by simp only [Rep] at h; simp only [toPy, Option.some.injEq] at e; subst h e; exact .str s
  | .ty n, v, p, h, e => by simp [toPy] at e
  | .glo x, v, p, h, e => by simp [toPy] at e
  | .tup ds, v, p, h, e => by
    simp only [Rep] at h
    obtain ⟨a, vs, rfl, h1, h2⟩ := h
    simp only [toPy, Option.map_eq_some_iff] at e
    obtain ⟨ps, e1, rfl⟩ := e
    exact .tup h1 (repL_dp ds vs ps h2 e1)
  | .lst ds, v, p, h, e => by
    simp only [Rep] at h
    obtain ⟨a, vs, rfl, h1, h2⟩ := h
    simp only [toPy, Option.map_eq_some_iff] at e
    obtain ⟨ps, e1, rfl⟩ := e
    exact .lst (.inl (.inl h1)) (repL_dp ds vs ps h2 e1)
  | .wls ds, v, p, h, e => by
    simp only [Rep] at h
    obtain ⟨a, vs, rfl, h1, h2⟩ := h
    simp only [toPy, Option.map_eq_some_iff] at e
    obtain ⟨ps, e1, rfl⟩ := e
    exact .lst h1 (repL_dp ds vs ps h2 e1)
theorem repL_dp {K : PySem.W.Frag} {H : Hp} : ∀ (ds : List D) (vs : List V) (ps : List PyData), RepL K H ds vs → toPyL ds = some ps → DpAll K H vs ps
  | [], vs, ps, h, e => by
    simp only [RepL] at h
    simp only [toPyL, Option.some.injEq] at e
    subst h e
    exact .nil
  | d :: ds, vs, ps, h, e => by
    simp only [RepL] at h
    obtain ⟨v, r, rfl, h1, h2⟩ := h
    simp only [toPyL] at e
    cases e1 : toPy d with
    | none => rw [e1] at e; simp at e
    | some p =>
      cases e2 : toPyL ds with
      | none => rw [e1, e2] at e; simp at e
      | some qs =>
        rw [e1, e2] at e
        simp at e
        subst e
        exact .cons (rep_dp d v p h1 e1) (repL_dp ds r qs h2 e2)
end
end

section
variable {X : Cx}
/-- what a result is asked to be -/
def Res (K : PySem.W.Frag) (φ : Fm) (S : Store) (H : Hp) (o : O) (Q : VK) : Prop := ∀ v H', Stp K φ S H S H' → OOk K φ H S H' o v → Q v H'
def rBin (K : PySem.W.Frag) (op : Operator) : R2 := fun x y H Q => ∃ (φ : Fm) (S : Store) (d e : D) (o : O), Cells K φ S H ∧ RepT K (hid φ S H) H d x ∧ RepT K (hid φ S H) H e y ∧ binD op d e = some o ∧ Res K φ S H o Q
theorem Res.val {K : PySem.W.Frag} {φ : Fm} {S : Store} {H : Hp} {d : D} {v : V} {Q : VK} (h : Res K φ S H (.val d) Q) (c : Cells K φ S H) (r : Rep K (hid φ S H) d v) : Q v H := h v H (.refl c) r
theorem op_bin (op : Operator) : OpR X (binaryOp op) (rBin X.K op) := by
  intro pins s σ H x y v u Q I rx ry h
  obtain ⟨φ, S, d, e, o, c, hd, he, hb, hq⟩ := h
  rw [binD_eq] at hb
  unfold binD0 at hb
  split at hb
  · cases hb
    cases hd; cases he
    exact op_add pins s σ H _ _ v u Q I rx ry ⟨_, _, rfl, rfl, hq.val c (by simp [Rep])⟩
  · split at hb
    · cases hb
      cases hd; cases he
      exact op_add_str pins s σ H _ _ v u Q I rx ry ⟨_, _, rfl, rfl, by assumption, hq.val c (by simp [Rep])⟩
    · cases hb
  · split at hb
    · rename_i hl
      cases hb
      obtain ⟨a, vs, rfl, h1, h2⟩ := hd
      obtain ⟨b, ws, rfl, h3, h4⟩ := he
      refine op_cat pins s σ H _ _ v u Q I rx ry ⟨a, b, vs, ws, rfl, rfl, h1, h3, by rw [h2.length, h4.length]; exact hl, fun p hp => ?_⟩
      exact hq _ _ (.new c hp) (.newL c hp (h2.append h4))
    · cases hb
  · split at hb
    · rename_i xs ys hl
      cases hb
      have hd' : ∃ a vs, x = .ref a ∧ SqT X.K (hid φ S H) a vs ∧ RepL X.K (hid φ S H) xs vs := by simpa only [RepT, Rep] using hd
      have he' : ∃ a vs, y = .ref a ∧ SqT X.K (hid φ S H) a vs ∧ RepL X.K (hid φ S H) ys vs := by simpa only [RepT, Rep] using he
      obtain ⟨a, vs, rfl, h1, h2⟩ := hd'
      obtain ⟨b, ws, rfl, h3, h4⟩ := he'
      refine op_catA pins s σ H _ _ v u Q I rx ry ⟨a, b, vs, ws, rfl, rfl, sub_t hid_sub h1, sub_t hid_sub h3, by rw [h2.length, h4.length]; exact hl, fun e => ?_, fun n e => ?_, fun n1 n2 p hp => ?_⟩
      · subst e
        have e0 := h2.length
        have : xs = [] := by cases xs with | nil => rfl | cons _ _ => simp at e0
        subst this
        exact hq.val c (by simp only [Rep, List.nil_append]; exact ⟨b, ws, rfl, h3, h4⟩)
      · subst e
        have e0 := h4.length
        have : ys = [] := by cases ys with | nil => rfl | cons _ _ => simp at e0
        subst this
        exact hq.val c (by simp only [Rep, List.append_nil]; exact ⟨a, vs, rfl, h1, h2⟩)
      · exact hq _ _ (.new c hp) (.newT c hp (h2.append h4))
    · cases hb
  · cases hb
    cases hd; cases he
    exact op_sub pins s σ H _ _ v u Q I rx ry ⟨_, _, rfl, rfl, hq.val c (by simp [Rep])⟩
  · split at hb
    · rename_i i j hc
      cases hb
      cases hd; cases he
      rcases hc with hc | hc | hc
      · exact op_mul pins s σ H _ _ v u Q I rx ry ⟨_, _, rfl, rfl, .inl hc, hq.val c (by simp [Rep])⟩
      · exact op_mul pins s σ H _ _ v u Q I rx ry ⟨_, _, rfl, rfl, .inr hc, hq.val c (by simp [Rep])⟩
      · exact op_mulW pins s σ H _ _ v u Q I rx ry ⟨_, _, rfl, rfl, hc, hq.val c (by simp [Rep])⟩
    · cases hb
  · split at hb
    · rename_i xs k hc
      cases hb
      cases he
      obtain ⟨a, vs, rfl, h1, h2⟩ := hd
      refine op_rep pins s σ H _ _ v u Q I rx ry ⟨a, k, vs, rfl, rfl, h1, hc.1, hc.2.1, by rw [h2.length]; exact hc.2.2, fun p hp => ?_⟩
      exact hq _ _ (.new c hp) (.newL c hp (h2.reps _))
    · cases hb
  · split at hb
    · rename_i xs k hc
      cases hb
      cases he
      have hd' : ∃ a vs, x = .ref a ∧ SqT X.K (hid φ S H) a vs ∧ RepL X.K (hid φ S H) xs vs := by simpa only [RepT, Rep] using hd
      obtain ⟨a, vs, rfl, h1, h2⟩ := hd'
      have hne : vs ≠ [] := fun z => by
        have e0 := h2.length
        rw [z] at e0
        cases xs with
        | nil => exact hc.1 rfl
        | cons _ _ => simp at e0
      refine op_repT pins s σ H _ _ v u Q I rx ry ⟨a, k, vs, rfl, rfl, sub_t hid_sub h1, hne, hc.2.1, hc.2.2.1, by rw [h2.length]; exact hc.2.2.2, fun p hp => ?_⟩
      exact hq _ _ (.new c hp) (.newT c hp (h2.reps _))
    · cases hb
  · split at hb
    · rename_i i j hc
      cases hb
      cases hd; cases he
      exact op_fdivW pins s σ H _ _ v u Q I rx ry ⟨_, _, rfl, rfl, hc, hq.val c (by simp [Rep])⟩
    · cases hb
  · split at hb
    · rename_i i j hc
      cases hb
      cases hd; cases he
      exact op_mod pins s σ H _ _ v u Q I rx ry ⟨_, _, rfl, rfl, hc, hq.val c (by simp [Rep])⟩
    · cases hb
  · split at hb
    · rename_i i j hc
      cases hb
      cases hd; cases he
      exact op_pow pins s σ H _ _ v u Q I rx ry ⟨_, _, rfl, rfl, hc, hq.val c (by simp [Rep])⟩
    · cases hb
  · split at hb
    · rename_i i j hc
      cases hb
      cases hd; cases he
      exact op_shlW pins s σ H _ _ v u Q I rx ry ⟨_, _, rfl, rfl, hc, hq.val c (by simp [Rep])⟩
    · cases hb
  · split at hb
    · rename_i i j hc
      cases hb
      cases hd; cases he
      exact op_shr pins s σ H _ _ v u Q I rx ry ⟨_, _, rfl, rfl, hc, hq.val c (by simp [Rep])⟩
    · cases hb
  · cases hb
    cases hd; cases he
    exact op_and pins s σ H _ _ v u Q I rx ry ⟨_, _, rfl, rfl, hq.val c (by simp [Rep])⟩
  · cases hb
    cases hd; cases he
    exact op_or pins s σ H _ _ v u Q I rx ry ⟨_, _, rfl, rfl, hq.val c (by simp [Rep])⟩
  · cases hb
    cases hd; cases he
    exact op_xor pins s σ H _ _ v u Q I rx ry ⟨_, _, rfl, rfl, hq.val c (by simp [Rep])⟩
  · cases hb
def rUn (K : PySem.W.Frag) (op : UnaryOp) : V → Hp → VK → Prop := fun x H Q => ∃ (φ : Fm) (S : Store) (d : D) (o : O), Cells K φ S H ∧ RepT K (hid φ S H) H d x ∧ unD op d = some o ∧ Res K φ S H o Q
theorem op_unD (op : UnaryOp) : UnR X (unaryOp op) (rUn X.K op) := by
  intro pins s σ H x v Q I rx h
  obtain ⟨φ, S, d, o, c, hd, hb, hq⟩ := h
  unfold unD at hb
  split at hb
  · cases hb
    cases hd
    exact un_neg pins s σ H _ v Q I rx ⟨_, rfl, hq.val c (by simp [Rep])⟩
  · cases hb

theorem flat_V {K : PySem.W.Frag} {H : Hp} {d : D} {v : V} (r : Rep K H d v) (h : flatD d = true) : flatV v = true := by
  cases d <;> simp only [flatD, Bool.false_eq_true] at h <;> (simp only [Rep] at r; subst r; rfl)
theorem flat_Vs {K : PySem.W.Frag} {H : Hp} : ∀ {ds : List D} {vs : List V}, RepL K H ds vs → ds.all flatD = true → vs.all flatV = true
  | [], vs, r, _ => by
    simp only [RepL] at r
    subst r
    rfl
  | d :: ds, vs, r, h => by
    simp only [RepL] at r
    obtain ⟨v, w, rfl, h1, h2⟩ := r
    simp only [List.all_cons, Bool.and_eq_true] at h ⊢
    exact ⟨flat_V h1 h.1, flat_Vs h2 h.2⟩
theorem flat_eq {K : PySem.W.Frag} {H : Hp} {d e : D} {v u : V} (r : Rep K H d v) (q : Rep K H e u) (h : flatD d = true) (h' : flatD e = true) : eqV v u = flatEq d e := by
  cases d <;> simp only [flatD, Bool.false_eq_true] at h <;> cases e <;> simp only [flatD, Bool.false_eq_true] at h' <;> (simp only [Rep] at r q; subst r q; first | rfl | (simp [eqV, flatEq]; done) | skip)
end
end UI
namespace UI
open PySem L2
section
variable {X : Cx} {K : PySem.W.Frag} {φ : Fm} {S S' : Store} {H H' : Hp}
theorem in_flat {d : D} {v : V} : ∀ {es : List D} {vs : List V}, Rep K H d v → flatD d = true → RepL K H es vs → es.all flatD = true → inV v vs = es.any fun e => flatEq e d
  | [], vs, r, f, h, g => by
    simp only [RepL] at h
    subst h
    rfl
  | e :: es, vs, r, f, h, g => by
    simp only [RepL] at h
    obtain ⟨w, ws, rfl, h1, h2⟩ := h
    simp only [List.all_cons, Bool.and_eq_true] at g
    have ih := in_flat r f h2 g.2
    unfold inV at ih ⊢
    rw [List.any_cons, List.any_cons, ih, flat_eq h1 r g.1 f]
/-- x in y -/
def rInB (K : PySem.W.Frag) (neg : Bool) : R2 := fun x y H Q => ∃ (φ : Fm) (S : Store) (d e : D) (b : Bool), RepT K (hid φ S H) H d x ∧ RepT K (hid φ S H) H e y ∧ inD d e = some b ∧ Q (.bl (if neg then !b else b)) H
theorem op_inB (hu : X.A.units + 65 < cLine) : OpR X (compareOp .In) (rInB X.K false) := by
  intro pins s σ H x y v u Q I rx ry h
  obtain ⟨φ, S, d, e, b, hd, he, hb, hq⟩ := h
  unfold inD at hb
  split at hb
  · rename_i es
    split at hb
    · rename_i hf
      cases hb
      simp only [Bool.and_eq_true] at hf
      have he' := RepT.rep he
      simp only [Rep] at he'
      obtain ⟨a, vs, rfl, h1, h2⟩ := he'
      have hd' := RepT.rep hd
      exact op_in_seq pins s σ H _ _ v u Q I rx ry ⟨a, vs, rfl, .inr h1, flat_V hd' hf.1, flat_Vs h2 hf.2, by rw [in_flat hd' hf.1 h2 hf.2]; exact hq⟩
    · cases hb
  · rename_i es
    unfold anyEq at hb
    split at hb
    · rename_i p ps e1 e2
      split at hb
      · rename_i hs
        cases hb
        simp only [Bool.and_eq_true] at hs
        exact op_inD hu pins s σ H _ _ v u Q I rx ry ⟨p, ps, rep_dp d x p (RepT.rep hd) e1, rep_dp (.lst es) y _ (RepT.rep he) (by simp only [toPy, e2, Option.map_some]), hs.1, hs.2, hq⟩
      · cases hb
    · cases hb
  · split at hb
    · cases hb
      cases hd
      cases he
      exact op_in_str pins s σ H _ _ v u Q I rx ry ⟨_, _, rfl, rfl, hq⟩
    · cases hb
  · cases hb
theorem op_ninB (hu : X.A.units + 65 < cLine) : OpR X (compareOp .NotIn) (rInB X.K true) := by
  intro pins s σ H x y v u Q I rx ry h
  obtain ⟨φ, S, d, e, b, hd, he, hb, hq⟩ := h
  unfold inD at hb
  split at hb
  · rename_i es
    split at hb
    · rename_i hf
      cases hb
      simp only [Bool.and_eq_true] at hf
      have he' := RepT.rep he
      simp only [Rep] at he'
      obtain ⟨a, vs, rfl, h1, h2⟩ := he'
      have hd' := RepT.rep hd
      exact op_notIn_seq pins s σ H _ _ v u Q I rx ry ⟨a, vs, rfl, .inr h1, flat_V hd' hf.1, flat_Vs h2 hf.2, by rw [in_flat hd' hf.1 h2 hf.2]; exact hq⟩
    · cases hb
  · rename_i es
    unfold anyEq at hb
    split at hb
    · rename_i p ps e1 e2
      split at hb
      · rename_i hs
        cases hb
        simp only [Bool.and_eq_true] at hs
        exact op_notInD hu pins s σ H _ _ v u Q I rx ry ⟨p, ps, rep_dp d x p (RepT.rep hd) e1, rep_dp (.lst es) y _ (RepT.rep he) (by simp only [toPy, e2, Option.map_some]), hs.1, hs.2, hq⟩
      · cases hb
    · cases hb
  · split at hb
    · cases hb
      cases hd
      cases he
      exact L2.op_notIn_str pins s σ H _ _ v u Q I rx ry ⟨_, _, rfl, rfl, hq⟩
    · cases hb
  · cases hb
def rCmp (K : PySem.W.Frag) (op : CmpOp) : R2 := fun x y H Q => ∃ (φ : Fm) (S : Store) (d e : D) (b : Bool), RepT K (hid φ S H) H d x ∧ RepT K (hid φ S H) H e y ∧ cmpD op d e = some b ∧ Q (.bl b) H
theorem rep_non {d : D} {v : V} (h : Rep K H d v) : isNonD d = decide (v = .non) := by
  cases d <;> simp only [Rep] at h
  case non => subst h; rfl
  case tup => obtain ⟨a, vs, rfl, _⟩ := h; rfl
  case lst => obtain ⟨a, vs, rfl, _⟩ := h; rfl
  case wls => obtain ⟨a, vs, rfl, _⟩ := h; rfl
  all_goals (subst h; rfl)
theorem op_cmpD (hu : X.A.units + 65 < cLine) (op : CmpOp) : OpR X (compareOp op) (rCmp X.K op) := by
  intro pins s σ H x y v u Q I rx ry h
  obtain ⟨φ, S, d, e, b, hd, he, hb, hq⟩ := h
  unfold cmpD at hb
  split at hb
  · unfold eqD at hb
    split at hb
    · rename_i p q e1 e2
      split at hb
      · rename_i hs
        cases hb
        simp only [Bool.and_eq_true] at hs
        exact op_eqD (by omega) pins s σ H _ _ v u Q I rx ry ⟨p, q, rep_dp _ _ p (RepT.rep hd) e1, rep_dp _ _ q (RepT.rep he) e2, hs.1, hs.2, hq⟩
      · cases hb
    · cases hb
  · unfold eqD at hb
    split at hb
    · rename_i p q e1 e2
      split at hb
      · rename_i hs
        cases hb
        simp only [Bool.and_eq_true] at hs
        exact op_neD (by omega) pins s σ H _ _ v u Q I rx ry ⟨p, q, rep_dp _ _ p (RepT.rep hd) e1, rep_dp _ _ q (RepT.rep he) e2, hs.1, hs.2, hq⟩
      · cases hb
    · cases hb
  · cases hb; cases hd; cases he
    exact op_lt pins s σ H _ _ v u Q I rx ry ⟨_, _, rfl, rfl, hq⟩
  · cases hb; cases hd; cases he
    exact op_le pins s σ H _ _ v u Q I rx ry ⟨_, _, rfl, rfl, hq⟩
  · cases hb; cases hd; cases he
    exact op_gt pins s σ H _ _ v u Q I rx ry ⟨_, _, rfl, rfl, hq⟩
  · cases hb; cases hd; cases he
    exact op_ge pins s σ H _ _ v u Q I rx ry ⟨_, _, rfl, rfl, hq⟩
  · exact op_inB hu pins s σ H _ _ v u Q I rx ry ⟨φ, S, _, _, b, hd, he, hb, hq⟩
  · simp only [Option.map_eq_some_iff] at hb
    obtain ⟨b', hb, rfl⟩ := hb
    exact op_ninB hu pins s σ H _ _ v u Q I rx ry ⟨φ, S, _, _, b', hd, he, hb, hq⟩
  · cases hb; cases he
    rw [rep_non (RepT.rep hd)] at hq
    exact op_isN pins s σ H _ _ v u Q I rx ry ⟨rfl, hq⟩
  · cases hb; cases he
    rw [rep_non (RepT.rep hd)] at hq
    exact op_notN pins s σ H _ _ v u Q I rx ry ⟨rfl, hq⟩
  · cases hb; cases hd; cases he
    exact op_isBl pins s σ H _ _ v u Q I rx ry ⟨_, _, rfl, rfl, hq⟩
  · cases hb; cases hd; cases he
    exact op_notBl pins s σ H _ _ v u Q I rx ry ⟨_, _, rfl, rfl, hq⟩
  · cases hb
theorem tru_V {d : D} {v : V} {b : Bool} (r : Rep K H d v) (h : truD d = some b) : TruV K v H b := by
  cases d with
  | non => simp only [Rep] at r; subst r; cases h; rfl
  | bl c => simp only [Rep] at r; subst r; cases h; rfl
  | int i => simp only [Rep] at r; subst r; cases h; rfl
  | str y =>
    simp only [Rep] at r
    subst r
    simp only [truD] at h
    split at h
    · cases h
      exact ⟨by assumption, rfl⟩
    · cases h
  | ty _ => cases h
  | glo _ => cases h
  | tup ds =>
    simp only [Rep] at r
    obtain ⟨a, vs, rfl, h1, h2⟩ := r
    cases h
    refine .inr (.inl ⟨vs, h1, ?_⟩)
    have e := h2.length
    cases ds <;> cases vs <;> first | rfl | simp at e
  | lst ds =>
    simp only [Rep] at r
    obtain ⟨a, vs, rfl, h1, h2⟩ := r
    cases h
    refine .inl ⟨vs, .inl (.inl h1), ?_⟩
    have e := h2.length
    cases ds <;> cases vs <;> first | rfl | simp at e
  | wls ds =>
    simp only [Rep] at r
    obtain ⟨a, vs, rfl, h1, h2⟩ := r
    cases h
    refine .inl ⟨vs, h1, ?_⟩
    have e := h2.length
    cases ds <;> cases vs <;> first | rfl | simp at e

/-! ### subscripts -/
theorem at_V {ds : List D} {vs : List V} {i : Int} {d : D} (r : RepL K H ds vs) (h : atD ds i = some d) : ∃ v, atI vs i = some v ∧ Rep K H d v := by
  unfold atD at h
  unfold atI
  rw [r.length]
  cases q : ixN ds.length i with
  | none => rw [q] at h; cases h
  | some j =>
    rw [q] at h
    exact r.get h
def rIxD (K : PySem.W.Frag) : R2 := fun x y H Q => ∃ (φ : Fm) (S : Store) (d e r : D), Cells K φ S H ∧ RepT K (hid φ S H) H d x ∧ RepT K (hid φ S H) H e y ∧ ixD d e = some r ∧ Res K φ S H (.val r) Q
theorem ix_D : IxR X (rIxD X.K) := by
  intro value slice pins s σ H x y v u Q I rx ry h hs
  obtain ⟨φ, S, d, e, r, c, hd, he, hb, hq⟩ := h
  unfold ixD at hb
  split at hb
  · cases he
    have hd' := hd
    simp only [RepT, Rep] at hd'
    obtain ⟨a, vs, rfl, h1, h2⟩ := hd'
    obtain ⟨w, h3, h4⟩ := at_V h2 hb
    exact ix_tup value slice pins s σ H _ _ v u Q I rx ry ⟨a, vs, _, w, rfl, rfl, sub_t hid_sub h1, h3, hq.val c h4⟩ hs
  · cases he
    obtain ⟨a, vs, rfl, h1, h2⟩ := hd
    obtain ⟨w, h3, h4⟩ := at_V h2 hb
    exact ix_list value slice pins s σ H _ _ v u Q I rx ry ⟨a, vs, _, w, rfl, rfl, .inl (.inl h1), h3, hq.val c h4⟩ hs
  · cases he
    have hd' := hd
    simp only [RepT, Rep] at hd'
    obtain ⟨a, vs, rfl, h1, h2⟩ := hd'
    obtain ⟨w, h3, h4⟩ := at_V h2 hb
    exact ix_list value slice pins s σ H _ _ v u Q I rx ry ⟨a, vs, _, w, rfl, rfl, sub_l hid_sub h1, h3, hq.val c h4⟩ hs
  · rename_i z i
    cases he
    cases hd
    split at hb
    · rename_i hl
      simp only [Option.map_eq_some_iff] at hb
      obtain ⟨k, hb, rfl⟩ := hb
      exact ix_str value slice pins s σ H _ _ v u Q I rx ry ⟨z, i, k, rfl, rfl, hl, hb, hq.val c (by simp [Rep])⟩ hs
    · cases hb
  · cases hb
theorem cut_V {ds : List D} {vs : List V} (r : RepL K H ds vs) (lo hi : Option Int) : RepL K H (cutD ds lo hi) (cutV vs lo hi) := by
  unfold cutD cutV
  rw [r.length]
  exact (r.drop _).take _
def rSlD (K : PySem.W.Frag) : V → Option Int → Option Int → Hp → VK → Prop := fun x lo hi H Q => ∃ (φ : Fm) (S : Store) (d : D) (r : O), Cells K φ S H ∧ RepT K (hid φ S H) H d x ∧ slD d lo hi = some r ∧ Res K φ S H r Q
theorem cut_all {ds : List D} {lo hi : Option Int} (h : HT.sIx ds.length 0 lo = 0 ∧ HT.sIx ds.length ds.length hi = ds.length) : cutD ds lo hi = ds := by
  unfold cutD
  rw [h.1, h.2]
  simp
theorem sl_D : SlR X (rSlD X.K) := by
  intro pins s σ H x v vl vu lo hi sl Q I rx hs pl pu h
  obtain ⟨φ, S, d, r, c, hd, hb, hq⟩ := h
  unfold slD at hb
  split at hb
  · cases hb
    obtain ⟨a, vs, rfl, h1, h2⟩ := hd
    exact sl_list pins s σ H _ v vl vu lo hi sl Q I rx hs pl pu ⟨a, vs, rfl, .inl (.inl h1), fun p hp => hq _ _ (.new c hp) (.newL c hp (cut_V h2 lo hi))⟩
  · cases hb
    have hd' := hd
    simp only [RepT, Rep] at hd'
    obtain ⟨a, vs, rfl, h1, h2⟩ := hd'
    exact sl_list pins s σ H _ v vl vu lo hi sl Q I rx hs pl pu ⟨a, vs, rfl, sub_l hid_sub h1, fun p hp => hq _ _ (.new c hp) (.newL c hp (cut_V h2 lo hi))⟩
  · cases hb
    have hd' := hd
    simp only [RepT, Rep] at hd'
    obtain ⟨a, vs, rfl, h1, h2⟩ := hd'
    refine sl_tupA pins s σ H _ v vl vu lo hi sl Q I rx hs pl pu ⟨a, vs, rfl, sub_t hid_sub h1, fun e => ?_, fun _ p hp => hq _ _ (.new c hp) (.newT c hp (cut_V h2 lo hi))⟩
    rw [h2.length] at e
    rw [cut_all e] at hq
    exact hq.val c (by simp only [Rep]; exact ⟨a, vs, rfl, h1, h2⟩)
  · rename_i z
    split at hb
    · rename_i hl
      cases hb
      cases hd
      exact C8.sl_txt pins s σ H _ v vl vu lo hi sl Q I rx hs pl pu ⟨z, rfl, hl, hq.val c (by simp [Rep])⟩
    · cases hb
  · cases hb
end
end UI
namespace UI
open PySem L2
/-- a slot's content -/
def SlOk (K : PySem.W.Frag) (φ : Fm) (S : Store) (H : Hp) : O → V → Prop
  | .val d, v => Rep K (hid φ S H) d v
  | .ptr r, v => ∃ a, v = .ref a ∧ φ.as[r]? = some a
  | .fr _, _ => False
/-- an exception: its class, its fields -/
def XOk (K : PySem.W.Frag) (H : Hp) (x : Xc) (C : Value) (d : Option Addr) : Prop := C = .ref (He.ga K x.cls) ∧
  (x.fs = [] ∨ ∃ da fs, d = some da ∧ H da = some (.xd fs) ∧ ∀ (f : Str) (e : D), x.fs.lookup f = some e → ∃ v, fs.lookup f = some v ∧ Rep K H e v)
/-- the exception that is handled: in slot i, at a, what it is -/
structure Hx where
  i : Nat
  a : Addr
  x : Xc
  C : Value
  d : Option Addr
/-- what is wanted of exceptions; what is handled -/
structure Wy where
  w : WX
  x : Option Hx
def Xi (K : PySem.W.Frag) (ξ : Option Hx) (φ : Fm) (ρ : Env) (S : Store) (σ : L2.St) (H : Hp) : Prop := ∀ q : Hx, ξ = some q → ρ[q.i]? = some none → σ[q.i]? = some (some (.ref q.a)) ∧ XOk K (hid φ S H) q.x q.C q.d
/-- the state at a point of a def -/
structure St0 (ξ : Option Hx) (K : PySem.W.Frag) (φ : Fm) (ρ : Env) (S : Store) (σ : L2.St) (H : Hp) : Prop where
  cells : Cells K φ S H
  slots : ∀ (i : Nat) (o : O), ρ[i]? = some (some o) → ∃ v, σ[i]? = some (some v) ∧ SlOk K φ S H o v
  len : σ.length = ρ.length
  xi : Xi K ξ φ ρ S σ H
theorem XOk.mono {K : PySem.W.Frag} {H H' : Hp} {x : Xc} {C : Value} {d : Option Addr} (h : XOk K H x C d) (s : Sub H H') : XOk K H' x C d :=
  ⟨h.1, h.2.imp id fun ⟨da, fs, h1, h2, h3⟩ => ⟨da, fs, h1, s _ _ h2, fun f e q => let ⟨v, k1, k2⟩ := h3 f e q; ⟨v, k1, Rep.mono s _ _ k2⟩⟩⟩
section
variable {K : PySem.W.Frag} {φ : Fm} {ρ : Env} {S S' S1 S2 : Store} {σ : L2.St} {H H' H1 H2 : Hp} {W : Wy}
theorem SlOk.step {o : O} {v : V} (h : SlOk K φ S H o v) (s : Sub (hid φ S H) (hid φ S' H')) : SlOk K φ S' H' o v := by
  cases o with
  | val d => exact Rep.mono s d v h
  | fr ds => exact h
  | ptr r => exact h
theorem St0.step {ξ : Option Hx} (st : St0 ξ K φ ρ S σ H) (s : Stp K φ S H S' H') : St0 ξ K φ ρ S' σ H' :=
  ⟨s.cells, fun i o e => let ⟨v, h1, h2⟩ := st.slots i o e; ⟨v, h1, h2.step s.sub⟩, st.len, fun q e1 e2 => ⟨(st.xi q e1 e2).1, (st.xi q e1 e2).2.mono s.sub⟩⟩
theorem SlOk.ook {o : O} {v : V} {H₀ : Hp} (h : SlOk K φ S H o v) : OOk K φ H₀ S H o v := by
  cases o with
  | val d => exact h
  | fr ds => exact h.elim
  | ptr r => exact h

/-! ### what is wanted of an outcome -/
def GX (K : PySem.W.Frag) (W : Wy) (φ : Fm) (S : Store) (H : Hp) (σ : L2.St) (x : Xc) (S' : Store) : Prop := ∀ C d H', Stp K φ S H S' H' → XOk K (hid φ S' H') x C d → W.w C d σ H'
def GG {α : Type} (K : PySem.W.Frag) (W : Wy) (φ : Fm) (S : Store) (H : Hp) (σ : L2.St) (R : α → Store → Prop) : Out α → Prop
  | .ok a S' => R a S'
  | .exc x S' => GX K W φ S H σ x S'
  | .bad => False
theorem GG.bind {α β : Type} {o : Out α} {f : α → Store → Out β} {R : β → Store → Prop} (h : GG K W φ S H σ R (o.bind f)) : GG K W φ S H σ (fun a S1 => GG K W φ S H σ R (f a S1)) o := by
  cases o with
  | ok a S1 => exact h
  | exc x S1 => exact h
  | bad => exact h
theorem GG.mono {α : Type} {o : Out α} {R R' : α → Store → Prop} (h : GG K W φ S H σ R o) (k : ∀ a S', R a S' → R' a S') : GG K W φ S H σ R' o := by
  cases o with
  | ok a S1 => exact k _ _ h
  | exc x S1 => exact h
  | bad => exact h
theorem GG.shift {α : Type} {o : Out α} {R : α → Store → Prop} (s : Stp K φ S H S1 H1) (h : GG K W φ S H σ R o) : GG K W φ S1 H1 σ R o := by
  cases o with
  | ok a S2 => exact h
  | exc x S2 => exact fun C d H' s' q => h C d H' (s.trans s') q
  | bad => exact h
theorem GG.of {α : Type} {o : Option α} {R : α → Store → Prop} (h : GG K W φ S H σ R (Out.of o S')) : ∃ a, o = some a ∧ R a S' := by
  cases o with
  | none => exact h.elim
  | some a => exact ⟨a, rfl, h⟩
/-- an expression's, a test's, a list's reading by a combinator -/
def tE (K : PySem.W.Frag) (W : Wy) (c : Ev) : TE := fun σ H Q => ∃ φ ρ S, St0 W.x K φ ρ S σ H ∧ GG K W φ S H σ (fun o S' => ∀ v H', Stp K φ S H S' H' → OOk K φ H S' H' o v → Q v H') (c ρ S)
def tT (K : PySem.W.Frag) (W : Wy) (c : Tv) : TT := fun σ H Q => ∃ φ ρ S, St0 W.x K φ ρ S σ H ∧ GG K W φ S H σ (fun b S' => ∀ H', Stp K φ S H S' H' → Q b H') (c ρ S)
def tL (K : PySem.W.Frag) (W : Wy) (c : Lv) : TA := fun σ H Q => ∃ φ ρ S, St0 W.x K φ ρ S σ H ∧ GG K W φ S H σ (fun ds S' => ∀ vs H', Stp K φ S H S' H' → RepL K (hid φ S' H') ds vs → Q vs H') (c ρ S)
def OOkL (K : PySem.W.Frag) (φ : Fm) (S : Store) (H : Hp) : List O → List V → Prop := Paired fun o v => SlOk K φ S H o v
def tA (K : PySem.W.Frag) (W : Wy) (c : Av) : TA := fun σ H Q => ∃ φ ρ S, St0 W.x K φ ρ S σ H ∧ GG K W φ S H σ (fun os S' => ∀ vs H', Stp K φ S H S' H' → OOkL K φ S' H' os vs → Q vs H') (c ρ S)
def tP (K : PySem.W.Frag) (W : Wy) (c : Pv) : TO := fun σ H Q => ∃ φ ρ S, St0 W.x K φ ρ S σ H ∧ GG K W φ S H σ (fun i S' => ∀ H', Stp K φ S H S' H' → Q i H') (c ρ S)
theorem PE.imp {X : Cx} {e : Expr} {t t' : TE} (h : PE X e t) (k : ∀ σ H Q, t' σ H Q → t σ H Q) : PE X e t' := ⟨fun pins s σ H Q I q => h.run pins s σ H Q I (k σ H Q q)⟩
theorem PT.imp {X : Cx} {e : Expr} {t t' : TT} (h : PT X e t) (k : ∀ σ H Q, t' σ H Q → t σ H Q) : PT X e t' := ⟨fun pins s σ H Q I q => h.run pins s σ H Q I (k σ H Q q)⟩
theorem PW.imp {X : Cx} {e : Expr} {t t' : TT} (h : PW X e t) (k : ∀ σ H Q, t' σ H Q → t σ H Q) : PW X e t' := ⟨fun wh pins s σ H Q I q => h.run wh pins s σ H Q I (k σ H Q q)⟩
theorem PA.imp {X : Cx} {e : List Expr} {t t' : TA} (h : PA X e t) (k : ∀ σ H Q, t' σ H Q → t σ H Q) : PA X e t' := ⟨fun pos pins s σ H Q I q => h.run pos pins s σ H Q I (k σ H Q q)⟩
theorem PO.imp {X : Cx} {e : Option Expr} {t t' : TO} (h : PO X e t) (k : ∀ σ H Q, t' σ H Q → t σ H Q) : PO X e t' := ⟨fun pins s σ H Q I q => h.run pins s σ H Q I (k σ H Q q)⟩
theorem PI.imp {X : Cx} {tg e : Expr} {t t' : TI} (h : PI X tg e t) (k : ∀ σ H Q, t' σ H Q → t σ H Q) : PI X tg e t' := ⟨fun pins s σ H Q I q => h.run pins s σ H Q I (k σ H Q q)⟩
theorem PS.imp {X : Cx} {e : Stmt} {t t' : TS} (h : PS X e t) (k : ∀ D σ H, t' D σ H → t D σ H) : PS X e t' := ⟨fun pins s σ H D I q => h.run pins s σ H D I (k D σ H q)⟩
theorem PSs.imp {X : Cx} {e : List Stmt} {t t' : TS} (h : PSs X e t) (k : ∀ D σ H, t' D σ H → t D σ H) : PSs X e t' := ⟨fun pins s σ H D I q => h.run pins s σ H D I (k D σ H q)⟩
end
section
variable {X : Cx} {W : Wy} {a b c : Expr} {ca cb cc : Ev} {pos : Pos}
/-- the first of two: what is known behind it -/
theorem tE.first {α : Type} {K : PySem.W.Frag} {φ : Fm} {ρ : Env} {S : Store} {σ : L2.St} {H : Hp} {R : α → Store → Prop} {f : O → Store → Out α} {Q : VK} (st : St0 W.x K φ ρ S σ H) (h : GG K W φ S H σ R ((ca ρ S).bind f))
    (k : ∀ o S1 v H1, Stp K φ S H S1 H1 → OOk K φ H S1 H1 o v → GG K W φ S1 H1 σ R (f o S1) → Q v H1) : tE K W ca σ H Q :=
  ⟨φ, ρ, S, st, h.bind.mono fun o S1 g v H1 s q => k o S1 v H1 s q (g.shift s)⟩
theorem ook_bl {K : PySem.W.Frag} {φ : Fm} {S : Store} {H₀ H : Hp} {b : Bool} : OOk K φ H₀ S H (.val (.bl b)) (.bl b) := by
  show Rep K (hid φ S H) (.bl b) (.bl b)
  simp [Rep]
theorem se_slot {i : Nat} {x : Str} (hN : X.N[i]? = some x) (hv : Vis X.env.scope x) (hd : (x == ("__debug__" : Str)) = false) (hcd : (x == ("__classdict__" : Str)) = false) : PE X (.Name x pos) (tE X.K W (eSlot i)) := by
  refine PE.imp (pe_var hN hv hd hcd) fun σ H Q h => ?_
  obtain ⟨φ, ρ, S, st, g⟩ := h
  unfold eSlot at g
  split at g
  · rename_i d e
    obtain ⟨v, h1, h2⟩ := st.slots _ _ e
    exact ⟨v, h1, g v H (.refl st.cells) h2⟩
  · rename_i r e
    obtain ⟨v, h1, h2⟩ := st.slots _ _ e
    exact ⟨v, h1, g v H (.refl st.cells) h2⟩
  · exact g.elim
theorem se_C {e : Expr} {d : D} {v : V} (h : PE X e (tC v)) (r : ∀ H, Rep X.K H d v) : PE X e (tE X.K W (eC d)) := by
  refine PE.imp h fun σ H Q h => ?_
  obtain ⟨φ, ρ, S, st, g⟩ := h
  exact g v H (.refl st.cells) (r _)
theorem se_bin {op : Operator} (ha : PE X a (tE X.K W ca)) (hb : PE X b (tE X.K W cb)) : PE X (.BinOp a op b pos) (tE X.K W (eBin op ca cb)) := by
  refine PE.imp (pe_op (op_bin op) ha hb) fun σ H Q h => ?_
  obtain ⟨φ, ρ, S, st, g⟩ := h
  refine tE.first st g fun o S1 v H1 s1 q1 g1 => ?_
  refine tE.first (st.step s1) g1 fun o2 S2 v2 H2 s2 q2 g2 => ?_
  obtain ⟨r, e, g3⟩ := g2.of
  unfold look2 at e
  cases e1 : look o S2 with
  | none => rw [e1] at e; cases e
  | some d =>
    cases e2 : look o2 S2 with
    | none => rw [e1, e2] at e; cases e
    | some d2 =>
      rw [e1, e2] at e
      have q1' := q1.step (c := st.cells) o v s2
      exact ⟨φ, S2, d, d2, r, s2.cells, look_ok q1' s2.cells e1, look_ok q2.w s2.cells e2, e, fun w H3 s3 q3 => g3 w H3 ((s1.trans s2).trans s3) (q3.back fun a h => s2.ex a (s1.ex a h))⟩
theorem se_un {op : UnaryOp} (ha : PE X a (tE X.K W ca)) : PE X (.UnaryOp op a pos) (tE X.K W (eUn op ca)) := by
  refine PE.imp (pe_un (op_unD op) ha) fun σ H Q h => ?_
  obtain ⟨φ, ρ, S, st, g⟩ := h
  refine tE.first st g fun o S1 v H1 s1 q1 g1 => ?_
  obtain ⟨r, e, g3⟩ := g1.of
  cases e1 : look o S1 with
  | none => rw [e1] at e; cases e
  | some d =>
    rw [e1] at e
    exact ⟨φ, S1, d, r, s1.cells, look_ok q1.w s1.cells e1, e, fun w H3 s3 q3 => g3 w H3 (s1.trans s3) (q3.back s1.ex)⟩
theorem look2_of {α : Type} {f : D → D → Option α} {x y : O} {S : Store} {r : α} (h : look2 f x y S = some r) : ∃ d e, look x S = some d ∧ look y S = some e ∧ f d e = some r := by
  unfold look2 at h
  cases e1 : look x S with
  | none => rw [e1] at h; cases h
  | some d =>
    cases e2 : look y S with
    | none => rw [e1, e2] at h; cases h
    | some d2 =>
      rw [e1, e2] at h
      exact ⟨d, d2, rfl, rfl, h⟩
/-- a test's reading as a value's -/
theorem tT_val {K : PySem.W.Frag} {c : Tv} {σ : L2.St} {H : Hp} {Q : VK} (h : tE K W (eB c) σ H Q) : tT K W c σ H fun b H' => Q (.bl b) H' := by
  obtain ⟨φ, ρ, S, st, g⟩ := h
  exact ⟨φ, ρ, S, st, g.bind.mono fun b S1 g1 H' s => g1 _ H' s ook_bl⟩
theorem cmp_core {K : PySem.W.Frag} {op : CmpOp} {σ : L2.St} {H : Hp} {Q : Bool → Hp → Prop} (h : tT K W (tCmp op ca cb) σ H Q) : tOp (rCmp K op) (tE K W ca) (tE K W cb) σ H fun x H' => ∃ k, x = .bl k ∧ Q k H' := by
  obtain ⟨φ, ρ, S, st, g⟩ := h
  refine tE.first st g fun o S1 v H1 s1 q1 g1 => ?_
  refine tE.first (st.step s1) g1 fun o2 S2 v2 H2 s2 q2 g2 => ?_
  obtain ⟨r, e, g3⟩ := g2.of
  obtain ⟨d, d2, e1, e2, e⟩ := look2_of e
  exact ⟨φ, S2, d, d2, r, look_ok (q1.step (c := st.cells) o v s2) s2.cells e1, look_ok q2.w s2.cells e2, e, r, rfl, g3 H2 (s1.trans s2)⟩
theorem bl_ex {Q : VK} {v : V} {H : Hp} (h : ∃ k, v = .bl k ∧ Q (.bl k) H) : Q v H := by
  obtain ⟨k, rfl, q⟩ := h
  exact q
theorem tOp_mono {r : R2} {ta tb : TE} {σ : L2.St} {H : Hp} {Q Q' : VK} (h : tOp r ta tb σ H Q) (hr : ∀ x y H, r x y H Q → r x y H Q') (ma : ∀ R R' : VK, (∀ v H, R v H → R' v H) → ∀ σ H, ta σ H R → ta σ H R') (mb : ∀ R R' : VK, (∀ v H, R v H → R' v H) → ∀ σ H, tb σ H R → tb σ H R') : tOp r ta tb σ H Q' :=
  ma _ _ (fun x H1 q => mb _ _ (fun y H2 q2 => hr x y H2 q2) _ _ q) _ _ h
theorem tE_mono {K : PySem.W.Frag} {c : Ev} (R R' : VK) (k : ∀ v H, R v H → R' v H) (σ : L2.St) (H : Hp) (h : tE K W c σ H R) : tE K W c σ H R' := by
  obtain ⟨φ, ρ, S, st, g⟩ := h
  exact ⟨φ, ρ, S, st, g.mono fun o S1 g1 v H' s q => k _ _ (g1 v H' s q)⟩
theorem tT_mono {K : PySem.W.Frag} {c : Tv} {R R' : Bool → Hp → Prop} (k : ∀ v H, R v H → R' v H) {σ : L2.St} {H : Hp} (h : tT K W c σ H R) : tT K W c σ H R' := by
  obtain ⟨φ, ρ, S, st, g⟩ := h
  exact ⟨φ, ρ, S, st, g.mono fun o S1 g1 H' s => k _ _ (g1 H' s)⟩
theorem rCmp_mono {K : PySem.W.Frag} {op : CmpOp} {Q Q' : VK} (k : ∀ v H, Q v H → Q' v H) (x y : V) (H : Hp) (h : rCmp K op x y H Q) : rCmp K op x y H Q' := by
  obtain ⟨φ, S, d, e, b, h1, h2, h3, h4⟩ := h
  exact ⟨φ, S, d, e, b, h1, h2, h3, k _ _ h4⟩
theorem st_cmp {op : CmpOp} (hu : X.A.units + 65 < cLine) (ha : PE X a (tE X.K W ca)) (hb : PE X b (tE X.K W cb)) (hm : behindInMarks op b = false) : PT X (.Compare a [op] [b] pos) (tT X.K W (tCmp op ca cb)) :=
  PT.imp (pt_cmpR (op_cmpD hu op) ha hb hm) fun σ H Q h => cmp_core h
theorem se_cmp {op : CmpOp} (hu : X.A.units + 65 < cLine) (ha : PE X a (tE X.K W ca)) (hb : PE X b (tE X.K W cb)) (hm : behindInMarks op b = false) : PE X (.Compare a [op] [b] pos) (tE X.K W (eB (tCmp op ca cb))) :=
  PE.imp (pe_cmpR (op_cmpD hu op) ha hb hm) fun σ H Q h => tOp_mono (cmp_core (tT_val h)) (rCmp_mono fun v H => bl_ex) tE_mono tE_mono
theorem cmp2_core {K : PySem.W.Frag} {op op' : CmpOp} {σ : L2.St} {H : Hp} {Q : VK} (h : tT K W (tCmp2 op op' ca cb cc) σ H fun b H' => Q (.bl b) H') : tChain (rCmp K op) (rCmp K op') (tE K W ca) (tE K W cb) (tE K W cc) σ H Q := by
  obtain ⟨φ, ρ, S, st, g⟩ := h
  refine tE.first st g fun o S1 v H1 s1 q1 g1 => ?_
  refine tE.first (st.step s1) g1 fun o2 S2 v2 H2 s2 q2 g2 => ?_
  obtain ⟨r, e, g3⟩ := (g2.bind).of
  obtain ⟨d, d2, e1, e2, e⟩ := look2_of e
  have st2 := (st.step s1).step s2
  refine ⟨φ, S2, d, d2, r, look_ok (q1.step (c := st.cells) o v s2) s2.cells e1, look_ok q2.w s2.cells e2, e, r, rfl, ?_⟩
  cases r with
  | true =>
    show tE K W cc σ H2 _
    refine tE.first st2 g3 fun o3 S3 v3 H3 s3 q3 g4 => ?_
    obtain ⟨r, e, g5⟩ := g4.of
    obtain ⟨d4, d5, e4, e5, e⟩ := look2_of e
    exact ⟨φ, S3, d4, d5, r, look_ok (q2.step (c := (st.step s1).cells) o2 v2 s3) s3.cells e4, look_ok q3.w s3.cells e5, e, g5 H3 ((s1.trans s2).trans s3)⟩
  | false => exact g3 H2 (s1.trans s2)
theorem se_cmp2 {op op' : CmpOp} (hu : X.A.units + 65 < cLine) (ha : PE X a (tE X.K W ca)) (hb : PE X b (tE X.K W cb)) (hc : PE X c (tE X.K W cc)) (hm : lastMarks [op, op'] [b, c] = false) : PE X (.Compare a [op, op'] [b, c] pos) (tE X.K W (eB (tCmp2 op op' ca cb cc))) :=
  PE.imp (pe_chain (op_cmpD hu op) (op_cmpD hu op') ha hb hc hm) fun σ H Q h => cmp2_core (tT_val h)
theorem st_cmp2 {op op' : CmpOp} (hu : X.A.units + 65 < cLine) (ha : PE X a (tE X.K W ca)) (hb : PE X b (tE X.K W cb)) (hc : PE X c (tE X.K W cc)) (hm : lastMarks [op, op'] [b, c] = false) : PT X (.Compare a [op, op'] [b, c] pos) (tT X.K W (tCmp2 op op' ca cb cc)) :=
  PT.imp (pt_chain (op_cmpD hu op) (op_cmpD hu op') ha hb hc hm) fun σ H Q h => cmp2_core (tT_mono (fun v H q => ⟨v, rfl, q⟩) h)
theorem se_not (ha : PE X a (tE X.K W ca)) : PE X (.UnaryOp .Not a pos) (tE X.K W (eNot ca)) := by
  refine PE.imp (pe_notT ha) fun σ H Q h => ?_
  obtain ⟨φ, ρ, S, st, g⟩ := h
  refine tE.first st g fun o S1 v H1 s1 q1 g1 => ?_
  obtain ⟨r, e, g3⟩ := g1.of
  simp only [Option.map_eq_some_iff] at e
  obtain ⟨k, e, rfl⟩ := e
  cases e1 : look o S1 with
  | none => rw [e1] at e; cases e
  | some d =>
    rw [e1] at e
    exact ⟨k, tru_V (RepT.rep (look_ok q1.w s1.cells e1)) e, g3 _ H1 s1 ook_bl⟩
theorem bl_of {K : PySem.W.Frag} {Hh H : Hp} {d : D} {v : V} {k : Bool} (r : RepT K Hh H d v) (h : blD d = some k) : v = .bl k := by
  cases d <;> simp only [blD, Option.some.injEq, reduceCtorEq] at h
  subst h
  exact r
theorem se_and {rest : List Expr} (ha : PE X a (tE X.K W ca)) (hb : PE X (.BoolOp .And (b :: rest) pos) (tE X.K W cb)) : PE X (.BoolOp .And (a :: b :: rest) pos) (tE X.K W (eAnd ca cb)) := by
  refine PE.imp (pe_and ha hb) fun σ H Q h => ?_
  obtain ⟨φ, ρ, S, st, g⟩ := h
  refine tE.first st g fun o S1 v H1 s1 q1 g1 => ?_
  obtain ⟨k, e, g3⟩ := g1.bind.of
  cases e1 : look o S1 with
  | none => rw [e1] at e; cases e
  | some d =>
    rw [e1] at e
    refine ⟨k, bl_of (look_ok q1.w s1.cells e1) e, ?_⟩
    cases k with
    | true => exact ⟨φ, ρ, S1, st.step s1, g3.mono fun o S2 g4 v H2 s2 q2 => g4 v H2 (s1.trans s2) (q2.back s1.ex)⟩
    | false => exact g3 _ H1 s1 ook_bl
theorem se_or {rest : List Expr} (ha : PE X a (tE X.K W ca)) (hb : PE X (.BoolOp .Or (b :: rest) pos) (tE X.K W cb)) : PE X (.BoolOp .Or (a :: b :: rest) pos) (tE X.K W (eOr ca cb)) := by
  refine PE.imp (pe_or ha hb) fun σ H Q h => ?_
  obtain ⟨φ, ρ, S, st, g⟩ := h
  refine tE.first st g fun o S1 v H1 s1 q1 g1 => ?_
  obtain ⟨k, e, g3⟩ := g1.bind.of
  cases e1 : look o S1 with
  | none => rw [e1] at e; cases e
  | some d =>
    rw [e1] at e
    refine ⟨k, bl_of (look_ok q1.w s1.cells e1) e, ?_⟩
    cases k with
    | true => exact g3 _ H1 s1 ook_bl
    | false => exact ⟨φ, ρ, S1, st.step s1, g3.mono fun o S2 g4 v H2 s2 q2 => g4 v H2 (s1.trans s2) (q2.back s1.ex)⟩
/-! ### tests -/
theorem st_val (ha : PE X a (tE X.K W ca)) (he : ∀ whole, isTrue a X.env whole = (do let v ← whole; standAt a.pos; holding [v] (truthy v))) : PT X a (tT X.K W (tVal ca)) := by
  refine PT.imp (pt_truth ha he) fun σ H Q h => ?_
  obtain ⟨φ, ρ, S, st, g⟩ := h
  refine tE.first st g fun o S1 v H1 s1 q1 g1 => ?_
  obtain ⟨k, e, g3⟩ := g1.of
  cases e1 : look o S1 with
  | none => rw [e1] at e; cases e
  | some d =>
    rw [e1] at e
    exact ⟨k, tru_V (RepT.rep (look_ok q1.w s1.cells e1)) e, g3 H1 s1⟩
theorem tT.first {α : Type} {K : PySem.W.Frag} {φ : Fm} {ρ : Env} {S : Store} {σ : L2.St} {H : Hp} {R : α → Store → Prop} {ta : Tv} {f : Bool → Store → Out α} {Q : Bool → Hp → Prop} (st : St0 W.x K φ ρ S σ H) (h : GG K W φ S H σ R ((ta ρ S).bind f))
    (k : ∀ o S1 H1, Stp K φ S H S1 H1 → GG K W φ S1 H1 σ R (f o S1) → Q o H1) : tT K W ta σ H Q :=
  ⟨φ, ρ, S, st, h.bind.mono fun o S1 g H1 s => k o S1 H1 s (g.shift s)⟩
theorem st_and {ta tb : Tv} {rest : List Expr} (ha : PT X a (tT X.K W ta)) (hb : PW X (.BoolOp .And (b :: rest) pos) (tT X.K W tb)) : PW X (.BoolOp .And (a :: b :: rest) pos) (tT X.K W (tAnd ta tb)) := by
  refine PW.imp (pw_and ha hb) fun σ H Q h => ?_
  obtain ⟨φ, ρ, S, st, g⟩ := h
  refine tT.first st g fun k S1 H1 s1 g1 => ?_
  cases k with
  | true => exact ⟨φ, ρ, S1, st.step s1, g1.mono fun o S2 g4 H2 s2 => g4 H2 (s1.trans s2)⟩
  | false => exact g1 H1 s1
theorem st_or {ta tb : Tv} {rest : List Expr} (ha : PT X a (tT X.K W ta)) (hb : PW X (.BoolOp .Or (b :: rest) pos) (tT X.K W tb)) : PW X (.BoolOp .Or (a :: b :: rest) pos) (tT X.K W (tOr ta tb)) := by
  refine PW.imp (pw_or ha hb) fun σ H Q h => ?_
  obtain ⟨φ, ρ, S, st, g⟩ := h
  refine tT.first st g fun k S1 H1 s1 g1 => ?_
  cases k with
  | true => exact g1 H1 s1
  | false => exact ⟨φ, ρ, S1, st.step s1, g1.mono fun o S2 g4 H2 s2 => g4 H2 (s1.trans s2)⟩
theorem st_not {ta : Tv} (ha : PT X a (tT X.K W ta)) : PT X (.UnaryOp .Not a pos) (tT X.K W (tNot ta)) := by
  refine PT.imp (pt_not ha) fun σ H Q h => ?_
  obtain ⟨φ, ρ, S, st, g⟩ := h
  exact tT.first st g fun k S1 H1 s1 g1 => g1 H1 s1
theorem se_if {t : Expr} {tt : Tv} (ht : PT X t (tT X.K W tt)) (ha : PE X a (tE X.K W ca)) (hb : PE X b (tE X.K W cb)) : PE X (.IfExp t a b pos) (tE X.K W (eIf tt ca cb)) := by
  refine PE.imp (pe_ifExp ht ha hb) fun σ H Q h => ?_
  obtain ⟨φ, ρ, S, st, g⟩ := h
  refine tT.first st g fun k S1 H1 s1 g1 => ?_
  cases k with
  | true => exact ⟨φ, ρ, S1, st.step s1, GG.mono (show GG X.K W φ S1 H1 σ _ (ca ρ S1) from g1) fun o S2 g4 v H2 s2 q2 => g4 v H2 (s1.trans s2) (q2.back s1.ex)⟩
  | false => exact ⟨φ, ρ, S1, st.step s1, GG.mono (show GG X.K W φ S1 H1 σ _ (cb ρ S1) from g1) fun o S2 g4 v H2 s2 q2 => g4 v H2 (s1.trans s2) (q2.back s1.ex)⟩
theorem sl_nil : PA X [] (tL X.K W lNil) := PA.imp pa_nil fun σ H Q h => by
  obtain ⟨φ, ρ, S, st, g⟩ := h
  exact g [] H (.refl st.cells) .nil
theorem starEach_cons {e : Expr} {es : List Expr} {env : PySem.Env} (h : ∀ e' p, e ≠ .Starred e' p) : starEach (e :: es) env = (false, eval e env) :: starEach es env := by
  cases e <;> first | rfl | exact absurd rfl (h _ _)
theorem sl_cons {es : List Expr} {cl : Lv} (ha : PE X a (tE X.K W ca)) (hl : PA X es (tL X.K W cl)) (hs : ∀ e' p, a ≠ .Starred e' p) : PA X (a :: es) (tL X.K W (lCons ca cl)) := by
  refine PA.imp (pa_cons ha hl (starEach_cons hs)) fun σ H Q h => ?_
  obtain ⟨φ, ρ, S, st, g⟩ := h
  refine tE.first st g fun o S1 v H1 s1 q1 g1 => ?_
  have g2 := g1.bind
  cases e : force o S1 with
  | bad => rw [e] at g2; exact g2.elim
  | exc x S2 =>
    cases o <;> simp only [force, reduceCtorEq] at e
    rename_i r
    cases q : S1[r]? with
    | none => rw [q] at e; cases e
    | some c' => rw [q] at e; cases c' <;> cases e
  | ok d S2 =>
    rw [e] at g2
    obtain ⟨s2, r2⟩ := force_ok q1.w st.cells s1.cells e
    have s12 := s1.trans s2
    refine ⟨φ, ρ, S2, st.step s12, (GG.shift s2 (GG.bind g2)).mono fun ds S3 g3 vs H3 s3 q3 => ?_⟩
    exact g3 (v :: vs) H3 (s12.trans s3) (.cons (Rep.mono s3.sub _ _ r2) q3)
theorem se_tup {es : List Expr} {cl : Lv} {k : Nat} (hl : PA X es (tL X.K W cl)) : PE X (.Tuple es k pos) (tE X.K W (eTup cl)) := by
  refine PE.imp (pe_tup hl) fun σ H Q h => ?_
  obtain ⟨φ, ρ, S, st, g⟩ := h
  refine ⟨φ, ρ, S, st, g.bind.mono fun ds S1 g1 vs H1 s1 q1 => ?_⟩
  split at g1
  · rename_i hl
    exact ⟨by rw [q1.length]; exact hl, fun p hp => g1 _ _ (s1.trans (.new s1.cells hp)) ((OOk.newT s1.cells hp q1).back s1.ex)⟩
  · exact g1.elim
theorem se_lst {es : List Expr} {cl : Lv} (hl : PA X es (tL X.K W cl)) : PE X (.List es pos) (tE X.K W (eLst cl)) := by
  refine PE.imp (pe_lst hl) fun σ H Q h => ?_
  obtain ⟨φ, ρ, S, st, g⟩ := h
  refine ⟨φ, ρ, S, st, g.bind.mono fun ds S1 g1 vs H1 s1 q1 => ?_⟩
  split at g1
  · rename_i hl
    exact ⟨by rw [q1.length]; exact hl, fun p hp => g1 _ _ (s1.trans (.new s1.cells hp)) ((OOk.newL s1.cells hp q1).back s1.ex)⟩
  · exact g1.elim
theorem slOk_norm {K : PySem.W.Frag} {φ : Fm} {S S₀ : Store} {H₀ H : Hp} {o : O} {v : V} (h : OOkW K φ H₀ S H o v) (c : Cells K φ S₀ H₀) : SlOk K φ S H (norm o) v := by
  cases o with
  | val d => exact h
  | ptr r => exact h
  | fr ds => exact norm_ok (o := .fr ds) h c
theorem sa_nil : PA X [] (tA X.K W aNil) := PA.imp pa_nil fun σ H Q h => by
  obtain ⟨φ, ρ, S, st, g⟩ := h
  exact g [] H (.refl st.cells) .nil
theorem sa_cons {es : List Expr} {cl : Av} (ha : PE X a (tE X.K W ca)) (hl : PA X es (tA X.K W cl)) (hs : ∀ e' p, a ≠ .Starred e' p) : PA X (a :: es) (tA X.K W (aCons ca cl)) := by
  refine PA.imp (pa_cons ha hl (starEach_cons hs)) fun σ H Q h => ?_
  obtain ⟨φ, ρ, S, st, g⟩ := h
  refine tE.first st g fun o S1 v H1 s1 q1 g1 => ?_
  refine ⟨φ, ρ, S1, st.step s1, g1.bind.mono fun os S3 g3 vs H3 s3 q3 => ?_⟩
  exact g3 (v :: vs) H3 (s1.trans s3) (.cons ((slOk_norm q1.w st.cells).step s3.sub) q3)
theorem se_ix (ha : PE X a (tE X.K W ca)) (hb : PE X b (tE X.K W cb)) (hs : PlainIx b) : PE X (.Subscript a b pos) (tE X.K W (eIx ca cb)) := by
  refine PE.imp (pe_ix ix_D ha hb hs) fun σ H Q h => ?_
  obtain ⟨φ, ρ, S, st, g⟩ := h
  refine tE.first st g fun o S1 v H1 s1 q1 g1 => ?_
  refine tE.first (st.step s1) g1 fun o2 S2 v2 H2 s2 q2 g2 => ?_
  obtain ⟨r, e, g3⟩ := g2.of
  simp only [Option.map_eq_some_iff] at e
  obtain ⟨r', e, rfl⟩ := e
  obtain ⟨d, d2, e1, e2, e⟩ := look2_of e
  exact ⟨φ, S2, d, d2, r', s2.cells, look_ok (q1.step (c := st.cells) o v s2) s2.cells e1, look_ok q2.w s2.cells e2, e, fun w H3 s3 q3 => g3 w H3 ((s1.trans s2).trans s3) q3⟩
theorem so_none : PO X none (tP X.K W pNo) := PO.imp po_none fun σ H Q h => by
  obtain ⟨φ, ρ, S, st, g⟩ := h
  exact g H (.refl st.cells)
theorem so_some (ha : PE X a (tE X.K W ca)) : PO X (some a) (tP X.K W (pSome ca)) := by
  refine PO.imp (po_some ha) fun σ H Q h => ?_
  obtain ⟨φ, ρ, S, st, g⟩ := h
  refine tE.first st g fun o S1 v H1 s1 q1 g1 => ?_
  obtain ⟨r, e, g3⟩ := g1.of
  simp only [Option.map_eq_some_iff] at e
  obtain ⟨i, e, rfl⟩ := e
  cases e1 : look o S1 with
  | none => rw [e1] at e; cases e
  | some d =>
    rw [e1] at e
    have r1 := look_ok q1.w s1.cells e1
    cases d <;> simp only [Option.bind_some, intD, Option.some.injEq, reduceCtorEq] at e
    subst e
    cases r1
    exact ⟨_, rfl, g3 H1 s1⟩
theorem tP.first {α : Type} {K : PySem.W.Frag} {φ : Fm} {ρ : Env} {S : Store} {σ : L2.St} {H : Hp} {R : α → Store → Prop} {ta : Pv} {f : Option Int → Store → Out α} {Q : Option Int → Hp → Prop} (st : St0 W.x K φ ρ S σ H) (h : GG K W φ S H σ R ((ta ρ S).bind f))
    (k : ∀ o S1 H1, Stp K φ S H S1 H1 → GG K W φ S1 H1 σ R (f o S1) → Q o H1) : tP K W ta σ H Q :=
  ⟨φ, ρ, S, st, h.bind.mono fun o S1 g H1 s => k o S1 H1 s (g.shift s)⟩
theorem se_sl {lo hi : Option Expr} {cl ch : Pv} {p2 : Pos} (ha : PE X a (tE X.K W ca)) (hl : PO X lo (tP X.K W cl)) (hh : PO X hi (tP X.K W ch)) : PE X (.Subscript a (.Slice lo hi none p2) pos) (tE X.K W (eSl ca cl ch)) := by
  refine PE.imp (pe_slice sl_D ha hl hh) fun σ H Q h => ?_
  obtain ⟨φ, ρ, S, st, g⟩ := h
  refine tE.first st g fun o S1 v H1 s1 q1 g1 => ?_
  refine tP.first (st.step s1) g1 fun l S2 H2 s2 g2 => ?_
  refine tP.first ((st.step s1).step s2) g2 fun u S3 H3 s3 g3 => ?_
  obtain ⟨r, e, g4⟩ := g3.of
  have q3 := (q1.step (c := st.cells) o v s2).step (c := st.cells) o v s3
  cases e1 : look o S3 with
  | none => rw [e1] at e; cases e
  | some d =>
    rw [e1] at e
    exact ⟨φ, S3, d, r, s3.cells, look_ok q3 s3.cells e1, e, fun w H4 s4 q4 => g4 w H4 (((s1.trans s2).trans s3).trans s4) (q4.back fun a h => s3.ex a (s2.ex a (s1.ex a h)))⟩
end
end UI
namespace UI
open PySem L2
section
variable {X : Cx} {W : Wy} {K : PySem.W.Frag} {φ : Fm} {S S' : Store} {H H' : Hp}
/-- the arguments as they are now -/
abbrev RepTs (K : PySem.W.Frag) (Hh H : Hp) : List D → List V → Prop := Paired fun d v => RepT K Hh H d v
theorem lookAll_ok (c : Cells K φ S H) : ∀ {os : List O} {vs : List V} {ds : List D}, OOkL K φ S H os vs → lookAll os S = some ds → RepTs K (hid φ S H) H ds vs
  | [], _, ds, .nil, e => by
    cases e
    exact .nil
  | o :: os, _, ds, .cons h1 h2, e => by
    simp only [lookAll] at e
    cases e1 : look o S with
    | none => rw [e1] at e; cases e
    | some d =>
      rw [e1] at e
      simp only [Option.bind_some, Option.map_eq_some_iff] at e
      obtain ⟨es, e2, rfl⟩ := e
      exact .cons (look_ok (h1.ook (H₀ := H)).w c e1) (lookAll_ok c h2 e2)
def rBlt (K : PySem.W.Frag) (g : List D → Option O) : List V → Hp → VK → Prop := fun vs H Q => ∃ (φ : Fm) (S : Store) (ds : List D) (o : O), Cells K φ S H ∧ RepTs K (hid φ S H) H ds vs ∧ g ds = some o ∧ Res K φ S H o Q
theorem rTs1 {Hh : Hp} {d : D} {vs : List V} (h : RepTs K Hh H [d] vs) : ∃ v, vs = [v] ∧ RepT K Hh H d v := by
  cases h with
  | cons a b =>
    cases b
    exact ⟨_, rfl, a⟩
theorem rTs2 {Hh : Hp} {d e : D} {vs : List V} (h : RepTs K Hh H [d, e] vs) : ∃ v u, vs = [v, u] ∧ RepT K Hh H d v ∧ RepT K Hh H e u := by
  cases h with
  | cons a b =>
    cases b with
    | cons a' b' =>
      cases b'
      exact ⟨_, _, rfl, a, a'⟩
/-- a sequence as it is now -/
theorem seq_T {d : D} {v : V} {ds : List D} (r : RepT K (hid φ S H) H d v) (h : seqOf d = some ds) : ∃ a vs, v = .ref a ∧ RepL K (hid φ S H) ds vs ∧ (SqL K H a vs ∨ (SqT K H a vs ∧ Rep K (hid φ S H) (.tup ds) v)) := by
  cases d <;> simp only [seqOf, Option.some.injEq, reduceCtorEq] at h
  · subst h
    have r' := r
    simp only [RepT, Rep] at r'
    obtain ⟨a, vs, rfl, h1, h2⟩ := r'
    exact ⟨a, vs, rfl, h2, .inr ⟨sub_t hid_sub h1, by simp only [Rep]; exact ⟨a, vs, rfl, h1, h2⟩⟩⟩
  · subst h
    obtain ⟨a, vs, rfl, h1, h2⟩ := r
    exact ⟨a, vs, rfl, h2, .inl (.inl (.inl h1))⟩
  · subst h
    have r' := r
    simp only [RepT, Rep] at r'
    obtain ⟨a, vs, rfl, h1, h2⟩ := r'
    exact ⟨a, vs, rfl, h2, .inl (sub_l hid_sub h1)⟩
theorem cb_len : CallR X (.builtin "len") (rBlt X.K lenB) := by
  intro pins s σ H xs us Q I r h
  obtain ⟨φ, S, ds, o, c, rs, hb, hq⟩ := h
  unfold lenB at hb
  split at hb
  · split at hb
    · rename_i hl
      cases hb
      obtain ⟨v, rfl, r1⟩ := rTs1 rs
      cases r1
      exact call_len_str pins s σ H _ us Q I r ⟨_, rfl, hl, hq.val c (by simp [Rep])⟩
    · cases hb
  · obtain ⟨v, rfl, r1⟩ := rTs1 rs
    simp only [Option.map_eq_some_iff] at hb
    obtain ⟨es, e, rfl⟩ := hb
    obtain ⟨a, vs, rfl, h2, h3⟩ := seq_T r1 e
    exact call_len_seq pins s σ H _ us Q I r ⟨a, vs, rfl, h3.imp id (·.1), by rw [h2.length]; exact hq.val c (by simp [Rep])⟩
  · cases hb
theorem cb_abs : CallR X (.builtin "abs") (rBlt X.K absB) := by
  intro pins s σ H xs us Q I r h
  obtain ⟨φ, S, ds, o, c, rs, hb, hq⟩ := h
  unfold absB at hb
  split at hb
  · cases hb
    obtain ⟨v, rfl, r1⟩ := rTs1 rs
    cases r1
    exact call_abs pins s σ H _ us Q I r ⟨_, rfl, hq.val c (by simp [Rep])⟩
  · cases hb
theorem cb_int : CallR X (.type "int") (rBlt X.K intB) := by
  intro pins s σ H xs us Q I r h
  obtain ⟨φ, S, ds, o, c, rs, hb, hq⟩ := h
  unfold intB at hb
  split at hb
  · cases hb
    obtain ⟨v, rfl, r1⟩ := rTs1 rs
    cases r1
    exact call_int1 pins s σ H _ us Q I r (.inl ⟨_, rfl, hq.val c (by simp [Rep])⟩)
  · cases hb
    obtain ⟨v, rfl, r1⟩ := rTs1 rs
    cases r1
    exact call_int1 pins s σ H _ us Q I r (.inr ⟨_, rfl, hq.val c (by simp [Rep])⟩)
  · rename_i a
    cases e : PySem.intText? a with
    | none => rw [e] at hb; cases hb
    | some n =>
      rw [e] at hb
      simp only [Option.bind_some] at hb
      split at hb
      · rename_i hl
        cases hb
        obtain ⟨v, rfl, r1⟩ := rTs1 rs
        cases r1
        exact call_int_str pins s σ H _ us Q I r ⟨_, n, rfl, e, hl, hq.val c (by simp [Rep])⟩
      · cases hb
  · cases hb
theorem cb_str : CallR X (.type "str") (rBlt X.K strB) := by
  intro pins s σ H xs us Q I r h
  obtain ⟨φ, S, ds, o, c, rs, hb, hq⟩ := h
  unfold strB at hb
  split at hb
  · split at hb
    · rename_i hl
      cases hb
      obtain ⟨v, rfl, r1⟩ := rTs1 rs
      cases r1
      exact call_str_int pins s σ H _ us Q I r ⟨_, rfl, hl, hq.val c (by simp [Rep])⟩
    · cases hb
  · cases hb
theorem ty_X {d : D} {v : V} {t : String} (r : Rep K H d v) (h : tyD d = some t) : TyX K H v (.type t) := by
  cases d <;> simp only [tyD, Option.some.injEq, reduceCtorEq] at h <;> subst h
  · simp only [Rep] at r; subst r; exact .base .non
  · simp only [Rep] at r; subst r; exact .base (.bl _)
  · simp only [Rep] at r; subst r; exact .base (.int _)
  · simp only [Rep] at r; subst r; exact .base (.str _)
  · simp only [Rep] at r
    obtain ⟨a, vs, rfl, (h1 | ⟨o, h1⟩) | ⟨o, its, n, h1, h2, _⟩, _⟩ := r
    · exact .base (.tup h1)
    · exact .fTuple h1
    · exact .kTuple h1 h2
  · simp only [Rep] at r
    obtain ⟨a, vs, rfl, h1, _⟩ := r
    exact .base (.lst h1)
  · simp only [Rep] at r
    obtain ⟨a, vs, rfl, (h1 | ⟨o, h1⟩) | ⟨o, its, n, h1, h2, _⟩, _⟩ := r
    · exact .base (.lst h1)
    · exact .base (.frz h1)
    · exact .kList h1 h2
theorem cb_isi : CallR X (.builtin "isinstance") (rBlt X.K isiB) := by
  intro pins s σ H xs us Q I r h
  obtain ⟨φ, S, ds, o, c, rs, hb, hq⟩ := h
  unfold isiB at hb
  split at hb
  · rename_i d n
    obtain ⟨v, u, rfl, r1, r2⟩ := rTs2 rs
    cases e : tyD d with
    | none => rw [e] at hb; cases hb
    | some t =>
      rw [e] at hb
      simp only [Option.bind_some, Option.map_eq_some_iff] at hb
      obtain ⟨b, e2, rfl⟩ := hb
      cases r2
      exact call_isi pins s σ H _ us Q I r ⟨v, _, _, _, b, rfl, .ty n, ty_X (RepT.rep r1) e, kit_ty e2, hq.val c (by simp [Rep])⟩
  · cases hb
theorem cb_tuple : CallR X (.type "tuple") (rBlt X.K tupleB) := by
  intro pins s σ H xs us Q I r h
  obtain ⟨φ, S, ds, o, c, rs, hb, hq⟩ := h
  unfold tupleB at hb
  split at hb
  · obtain ⟨v, rfl, r1⟩ := rTs1 rs
    simp only [Option.map_eq_some_iff] at hb
    obtain ⟨es, e, rfl⟩ := hb
    obtain ⟨a, vs, rfl, h2, h3 | ⟨h3, h4⟩⟩ := seq_T r1 e
    · exact call_tuple_of pins s σ H _ us Q I r ⟨a, vs, rfl, .inl ⟨h3, fun p hp => hq _ _ (.new c hp) (.newT c hp h2)⟩⟩
    · exact call_tuple_of pins s σ H _ us Q I r ⟨a, vs, rfl, .inr ⟨h3, hq.val c h4⟩⟩
  · cases hb
theorem cb_list : CallR X (.type "list") (rBlt X.K listB) := by
  intro pins s σ H xs us Q I r h
  obtain ⟨φ, S, ds, o, c, rs, hb, hq⟩ := h
  unfold listB at hb
  split at hb
  · obtain ⟨v, rfl, r1⟩ := rTs1 rs
    simp only [Option.map_eq_some_iff] at hb
    obtain ⟨es, e, rfl⟩ := hb
    obtain ⟨a, vs, rfl, h2, h3⟩ := seq_T r1 e
    exact call_list_of pins s σ H _ us Q I r ⟨a, vs, rfl, h3.imp id (·.1), fun p hp => hq _ _ (.new c hp) (.newL c hp h2)⟩
  · cases hb
theorem cb_max2 (hc : X.calm = true) : CallR X (.builtin "max") (rBlt X.K max2B) := by
  intro pins s σ H xs us Q I r h
  obtain ⟨φ, S, ds, o, c, rs, hb, hq⟩ := h
  unfold max2B at hb
  split at hb
  · cases hb
    obtain ⟨v, u, rfl, r1, r2⟩ := rTs2 rs
    cases r1; cases r2
    exact call_max2 hc pins s σ H _ us Q I r ⟨_, _, rfl, hq.val c (by simp [Rep])⟩
  · cases hb
theorem cb_min2 (hc : X.calm = true) : CallR X (.builtin "min") (rBlt X.K min2B) := by
  intro pins s σ H xs us Q I r h
  obtain ⟨φ, S, ds, o, c, rs, hb, hq⟩ := h
  unfold min2B at hb
  split at hb
  · cases hb
    obtain ⟨v, u, rfl, r1, r2⟩ := rTs2 rs
    cases r1; cases r2
    exact call_min2 hc pins s σ H _ us Q I r ⟨_, _, rfl, hq.val c (by simp [Rep])⟩
  · cases hb
theorem ints_V : ∀ {ds : List D} {vs : List V} {ns : List Int}, RepL K H ds vs → intsOf ds = some ns → vs = ns.map V.int
  | [], vs, ns, r, h => by
    simp only [RepL] at r
    cases h
    subst r
    rfl
  | d :: ds, vs, ns, r, h => by
    simp only [RepL] at r
    obtain ⟨v, w, rfl, r1, r2⟩ := r
    cases d <;> simp only [intsOf, Option.map_eq_some_iff, reduceCtorEq] at h
    obtain ⟨ms, e, rfl⟩ := h
    simp only [Rep] at r1
    subst r1
    rw [ints_V r2 e]
    rfl
theorem bools_V : ∀ {ds : List D} {vs : List V} {ns : List Bool}, RepL K H ds vs → boolsOf ds = some ns → vs = ns.map V.bl
  | [], vs, ns, r, h => by
    simp only [RepL] at r
    cases h
    subst r
    rfl
  | d :: ds, vs, ns, r, h => by
    simp only [RepL] at r
    obtain ⟨v, w, rfl, r1, r2⟩ := r
    cases d <;> simp only [boolsOf, Option.map_eq_some_iff, reduceCtorEq] at h
    obtain ⟨ms, e, rfl⟩ := h
    simp only [Rep] at r1
    subst r1
    rw [bools_V r2 e]
    rfl
theorem cb_sum (hc : X.calm = true) : CallR X (.builtin "sum") (rBlt X.K sumB) := by
  intro pins s σ H xs us Q I r h
  obtain ⟨φ, S, ds, o, c, rs, hb, hq⟩ := h
  unfold sumB at hb
  split at hb
  · obtain ⟨v, rfl, r1⟩ := rTs1 rs
    simp only [Option.map_eq_some_iff] at hb
    obtain ⟨ns, e, rfl⟩ := hb
    obtain ⟨a, vs, rfl, h1, h2⟩ := r1
    have e2 := ints_V h2 e
    subst e2
    exact cr_sum hc pins s σ H _ us Q I r ⟨a, ns, rfl, .inl (.inl h1), hq.val c (by simp [Rep])⟩
  · cases hb
theorem cb_all (hc : X.calm = true) : CallR X (.builtin "all") (rBlt X.K allB) := by
  intro pins s σ H xs us Q I r h
  obtain ⟨φ, S, ds, o, c, rs, hb, hq⟩ := h
  unfold allB at hb
  split at hb
  · obtain ⟨v, rfl, r1⟩ := rTs1 rs
    simp only [Option.map_eq_some_iff] at hb
    obtain ⟨ns, e, rfl⟩ := hb
    obtain ⟨a, vs, rfl, h1, h2⟩ := r1
    have e2 := bools_V h2 e
    subst e2
    exact cr_all hc pins s σ H _ us Q I r ⟨a, ns, rfl, .inl (.inl h1), hq.val c (by simp [Rep])⟩
  · cases hb
theorem cb_any (hc : X.calm = true) : CallR X (.builtin "any") (rBlt X.K anyB) := by
  intro pins s σ H xs us Q I r h
  obtain ⟨φ, S, ds, o, c, rs, hb, hq⟩ := h
  unfold anyB at hb
  split at hb
  · obtain ⟨v, rfl, r1⟩ := rTs1 rs
    simp only [Option.map_eq_some_iff] at hb
    obtain ⟨ns, e, rfl⟩ := hb
    obtain ⟨a, vs, rfl, h1, h2⟩ := r1
    have e2 := bools_V h2 e
    subst e2
    exact cr_any hc pins s σ H _ us Q I r ⟨a, ns, rfl, .inl (.inl h1), hq.val c (by simp [Rep])⟩
  · cases hb
/-- a call of a built-in thing -/
theorem tCB_ok {g : List D → Option O} {l : Av} {σ : L2.St} {H : Hp} {Q : VK} (h : tE K W (eCallB g l) σ H Q) : tCB (rBlt K g) (tA K W l) σ H Q := by
  obtain ⟨φ, ρ, S, st, g0⟩ := h
  refine ⟨φ, ρ, S, st, g0.bind.mono fun os S1 g1 vs H1 s1 q1 => ?_⟩
  obtain ⟨r, e, g2⟩ := g1.of
  cases e1 : lookAll os S1 with
  | none => rw [e1] at e; cases e
  | some ds =>
    rw [e1] at e
    exact ⟨φ, S1, ds, r, s1.cells, lookAll_ok s1.cells q1 e1, e, fun w H2 s2 q2 => g2 w H2 (s1.trans s2) (q2.back s1.ex)⟩
theorem plain_es {es : List Expr} (h : ∀ e ∈ es, ∀ e' p, e ≠ .Starred e' p) (pos : Pos) (env : PySem.Env) : (backTo pos (starEach es env)).any (·.1) = false := by
  have k : ∀ es : List Expr, (∀ e ∈ es, ∀ e' p, e ≠ .Starred e' p) → (starEach es env).any (·.1) = false := by
    intro es
    induction es with
    | nil => intro _; rfl
    | cons e es ih =>
      intro h
      rw [starEach_cons (h e (List.mem_cons_self ..)), List.any_cons, ih fun e' he => h e' (List.mem_cons_of_mem _ he)]
      rfl
  have q := k es h
  unfold backTo
  rw [List.any_map]
  exact q
theorem se_callB {id : String} {g : List D → Option O} {l : Av} {x : Str} {p pos : Pos} {e : Expr} {es : List Expr} (hc : CallR X (.builtin id) (rBlt X.K g)) (hg : Gl X x) (hm : X.mg x = none) (hv : bootBuiltins x = some (.builtin id)) (ha : PA X (e :: es) (tA X.K W l))
    (hn : x ≠ "__name__") (hdb : (x == ("__debug__" : Str)) = false) (hs : ∀ y ∈ e :: es, ∀ e' p, y ≠ .Starred e' p) : PE X (.Call (.Name x p) (e :: es) [] pos) (tE X.K W (eCallB g l)) :=
  PE.imp (pe_callB hc hg hm hv ha hn hdb (starEach_cons (hs e (List.mem_cons_self ..))) (plain_es (fun y hy => hs y (List.mem_cons_of_mem _ hy)) _ _)) fun σ H Q h => tCB_ok h
theorem se_callTy {T : String} {g : List D → Option O} {l : Av} {x : Str} {p pos : Pos} {e : Expr} {es : List Expr} (hc : CallR X (.type T) (rBlt X.K g)) (hg : Gl X x) (hm : X.mg x = none) (hv : bootBuiltins x = some (.type T)) (ha : PA X (e :: es) (tA X.K W l))
    (hn : x ≠ "__name__") (hdb : (x == ("__debug__" : Str)) = false) (hs : ∀ y ∈ e :: es, ∀ e' p, y ≠ .Starred e' p) : PE X (.Call (.Name x p) (e :: es) [] pos) (tE X.K W (eCallB g l)) :=
  PE.imp (pe_callTy hc hg hm hv ha hn hdb (starEach_cons (hs e (List.mem_cons_self ..))) (plain_es (fun y hy => hs y (List.mem_cons_of_mem _ hy)) _ _)) fun σ H Q h => tCB_ok h
end
end UI
namespace UI
open PySem L2
/-- a step that may have made cells of its own -/
structure GStp (K : PySem.W.Frag) (φ : Fm) (S : Store) (H : Hp) (φ' : Fm) (S' : Store) (H' : Hp) : Prop where
  sub : Sub (hid φ S H) (hid φ' S' H')
  cells : Cells K φ' S' H'
  ex : ∀ a, H a ≠ none → H' a ≠ none
  keep : ∀ a, φ.z a → H' a = H a
  zz : ∀ a, φ.z a → φ'.z a
  pre : ∃ ψ : List Addr, φ'.as = φ.as ++ ψ ∧ ∀ a ∈ ψ, H a = none
section
variable {K : PySem.W.Frag} {W : Wy} {φ φ' φ1 φ2 : Fm} {ρ ρ' : Env} {S S' S1 S2 : Store} {σ σ' : L2.St} {H H' H1 H2 : Hp}
theorem Stp.g (s : Stp K φ S H S' H') : GStp K φ S H φ S' H' := ⟨s.sub, s.cells, s.ex, s.keep, fun _ h => h, [], by simp, by simp⟩
theorem GStp.refl (c : Cells K φ S H) : GStp K φ S H φ S H := (Stp.refl c).g
theorem GStp.trans (a : GStp K φ S H φ1 S1 H1) (b : GStp K φ1 S1 H1 φ2 S2 H2) : GStp K φ S H φ2 S2 H2 := by
  obtain ⟨ψ1, e1, n1⟩ := a.pre
  obtain ⟨ψ2, e2, n2⟩ := b.pre
  refine ⟨a.sub.trans b.sub, b.cells, fun x h => b.ex x (a.ex x h), fun x h => (b.keep x (a.zz x h)).trans (a.keep x h), fun x h => b.zz x (a.zz x h), ψ1 ++ ψ2, by rw [e2, e1, List.append_assoc], fun x hx => ?_⟩
  rcases List.mem_append.mp hx with h | h
  · exact n1 x h
  · cases q : H x with
    | none => rfl
    | some o => exact absurd (n2 x h) (a.ex x (by rw [q]; simp))
/-- a statement's outcome -/
def GS (K : PySem.W.Frag) (W : Wy) (φ : Fm) (S : Store) (H : Hp) (D : Ends) : SO → Prop
  | .nx ρ' S' => ∀ φ' σ' H', GStp K φ S H φ' S' H' → St0 W.x K φ' ρ' S' σ' H' → D.nx σ' H'
  | .brk ρ' S' => ∀ φ' σ' H', GStp K φ S H φ' S' H' → St0 W.x K φ' ρ' S' σ' H' → D.bk σ' H'
  | .ct ρ' S' => ∀ φ' σ' H', GStp K φ S H φ' S' H' → St0 W.x K φ' ρ' S' σ' H' → D.ct σ' H'
  | .ret o S' => ∀ φ' v H', GStp K φ S H φ' S' H' → OOk K φ' H S' H' o v → D.rt v H'
  | .exc x ρ' S' => ∀ φ' C d σ' H', GStp K φ S H φ' S' H' → St0 W.x K φ' ρ' S' σ' H' → XOk K (hid φ' S' H') x C d → W.w C d σ' H'
  | .bad => False
def tS (K : PySem.W.Frag) (W : Wy) (c : Sv) : TS := fun D σ H => ∃ φ ρ S, St0 W.x K φ ρ S σ H ∧ GS K W φ S H D (c ρ S)
theorem OOk.back2 {o : O} {v : V} {H₀ : Hp} (h : OOk K φ H1 S H o v) (e : ∀ a, H₀ a ≠ none → H1 a ≠ none) : OOk K φ H₀ S H o v := h.back e
theorem GS.shift {o : SO} {D : Ends} (s : GStp K φ S H φ1 S1 H1) (h : GS K W φ S H D o) : GS K W φ1 S1 H1 D o := by
  cases o with
  | nx ρ' S' => exact fun φ' σ' H' s' q => h φ' σ' H' (s.trans s') q
  | brk ρ' S' => exact fun φ' σ' H' s' q => h φ' σ' H' (s.trans s') q
  | ct ρ' S' => exact fun φ' σ' H' s' q => h φ' σ' H' (s.trans s') q
  | ret o S' => exact fun φ' v H' s' q => h φ' v H' (s.trans s') (q.back s.ex)
  | exc x ρ' S' => exact fun φ' C d σ' H' s' q r => h φ' C d σ' H' (s.trans s') q r
  | bad => exact h
/-- an expression's outcome within a statement's -/
theorem GG.ofS {α : Type} {o : Out α} {f : α → Store → SO} {D : Ends} (st : St0 W.x K φ ρ S σ H) (h : GS K W φ S H D (liftS ρ o f)) : GG K W φ S H σ (fun a S1 => GS K W φ S H D (f a S1)) o := by
  cases o with
  | ok a S1 => exact h
  | exc x S1 => exact fun C d H' s q => h φ C d σ H' s.g (st.step s) q
  | bad => exact h
theorem tE.firstS {ca : Ev} {f : O → Store → SO} {D : Ends} {Q : VK} (st : St0 W.x K φ ρ S σ H) (h : GS K W φ S H D (liftS ρ (ca ρ S) f))
    (k : ∀ o S1 v H1, Stp K φ S H S1 H1 → OOk K φ H S1 H1 o v → GS K W φ S1 H1 D (f o S1) → Q v H1) : tE K W ca σ H Q :=
  ⟨φ, ρ, S, st, (GG.ofS st h).mono fun o S1 g v H1 s q => k o S1 v H1 s q (g.shift s.g)⟩
theorem tT.firstS {ta : Tv} {f : Bool → Store → SO} {D : Ends} {Q : Bool → Hp → Prop} (st : St0 W.x K φ ρ S σ H) (h : GS K W φ S H D (liftS ρ (ta ρ S) f))
    (k : ∀ o S1 H1, Stp K φ S H S1 H1 → GS K W φ S1 H1 D (f o S1) → Q o H1) : tT K W ta σ H Q :=
  ⟨φ, ρ, S, st, (GG.ofS st h).mono fun o S1 g H1 s => k o S1 H1 s (g.shift s.g)⟩
theorem St0.put {ξ : Option Hx} {i : Nat} {o : O} {v : V} (st : St0 ξ K φ ρ S σ H) (h : SlOk K φ S H o v) : St0 ξ K φ (ρ.set i (some o)) S (σ.set i (some v)) H := by
  refine ⟨st.cells, fun j o' e => ?_, by rw [List.length_set, List.length_set]; exact st.len, fun q e1 e2 => ?_⟩
  case refine_2 =>
    by_cases hj : i = q.i
    · subst hj
      by_cases hl : q.i < ρ.length
      · rw [List.getElem?_set_self hl] at e2
        cases e2
      · rw [List.getElem?_eq_none (by rw [List.length_set]; omega)] at e2
        cases e2
    · rw [List.getElem?_set_ne hj] at e2 ⊢
      exact st.xi q e1 e2
  by_cases hj : i = j
  · subst hj
    by_cases hl : i < ρ.length
    · rw [List.getElem?_set_self hl] at e
      cases e
      exact ⟨v, by rw [List.getElem?_set_self (by rw [st.len]; exact hl)], h⟩
    · rw [List.getElem?_eq_none (by rw [List.length_set]; omega)] at e
      cases e
  · rw [List.getElem?_set_ne hj] at e
    obtain ⟨w, h1, h2⟩ := st.slots j o' e
    exact ⟨w, by rw [List.getElem?_set_ne hj]; exact h1, h2⟩
/-- a new list becomes a cell -/
theorem cell_new {H₀ : Hp} {S₀ : Store} {ds : List D} {v : V} (c₀ : Cells K φ S₀ H₀) (c : Cells K φ S H) (h : OOk K φ H₀ S H (.fr ds) v) (s : Sub (hid φ S₀ H₀) (hid φ S H)) :
    ∃ a, v = .ref a ∧ H₀ a = none ∧ Cells K ⟨φ.as ++ [a], φ.z⟩ (S ++ [.lst ds]) H ∧ (∀ b o, H₀ b ≠ none → hid φ S H b = some o → hid ⟨φ.as ++ [a], φ.z⟩ (S ++ [.lst ds]) H b = some o) := by
  obtain ⟨a, vs, rfl, h0, h1, h2, h3⟩ := h
  have ha : ∀ r : Nat, φ.as[r]? ≠ some a := new_ne c₀ h0
  have hza : ¬ φ.z a := fun z => c₀.zt a z h0
  have own : ∀ b, b ≠ a → ownA ⟨φ.as ++ [a], φ.z⟩ (S ++ [.lst ds]) b → ownA φ S b := fun b hb q => by
    rcases q with z | ⟨r, e1, e2⟩
    · exact .inl z
    · refine .inr ⟨r, ?_⟩
      have e1' : (φ.as ++ [a])[r]? = some b := e1
      by_cases hr : r < φ.as.length
      · rw [List.getElem?_append_left hr] at e1'
        rw [List.getElem?_append_left (by rw [← c.len]; exact hr)] at e2
        exact ⟨e1', e2⟩
      · rw [List.getElem?_append_right (by omega)] at e1'
        exfalso
        cases hk : r - φ.as.length with
        | zero => rw [hk] at e1'; simp at e1'; exact hb e1'.symm
        | succ k => rw [hk] at e1'; simp at e1'
  have sb : ∀ b o, b ≠ a → hid φ S H b = some o → hid ⟨φ.as ++ [a], φ.z⟩ (S ++ [.lst ds]) H b = some o := fun b o hb e => by
    obtain ⟨n, e⟩ := hid_inv e
    exact hid_of (fun z => n (own b hb z)) e
  have sb2 : Sub (dl (hid φ S H) a) (hid ⟨φ.as ++ [a], φ.z⟩ (S ++ [.lst ds]) H) := fun b o e => by
    have hb : b ≠ a := fun z => by
      rw [z] at e
      unfold dl at e
      rw [if_pos rfl] at e
      cases e
    exact sb b o hb (dl_sub _ _ e)
  have sb3 : Sub (hid φ S₀ H₀) (hid ⟨φ.as ++ [a], φ.z⟩ (S ++ [.lst ds]) H) := fun b o e => sb b o (ne_of_none (hid_sub _ _ e) h0) (s b o e)
  refine ⟨a, rfl, h0, ⟨?_, ?_, c.zt, ?_, ?_⟩, fun b o hb e => sb b o (fun z => hb (by rw [z]; exact h0)) e⟩
  · show (φ.as ++ [a]).length = _
    rw [List.length_append, List.length_append, c.len]
    rfl
  · show (φ.as ++ [a]).Nodup
    rw [List.nodup_append]
    refine ⟨c.nd, by simp, fun x hx y hy => ?_⟩
    simp at hy
    subst hy
    rintro rfl
    obtain ⟨r, hr⟩ := List.mem_iff_getElem?.mp hx
    exact ha r hr
  · intro r b e
    have e' : (φ.as ++ [a])[r]? = some b := e
    by_cases hr : r < φ.as.length
    · rw [List.getElem?_append_left hr] at e'
      exact c.zd r b e'
    · rw [List.getElem?_append_right (by omega)] at e'
      cases hk : r - φ.as.length with
      | zero => rw [hk] at e'; simp at e'; rw [← e']; exact hza
      | succ k => rw [hk] at e'; simp at e'
  · intro r b e
    have e' : (φ.as ++ [a])[r]? = some b := e
    by_cases hr : r < φ.as.length
    · rw [List.getElem?_append_left hr] at e'
      obtain ⟨ws, g1, g2, g3⟩ := c.at_ r b e'
      have hs : r < S.length := by rw [← c.len]; exact hr
      -- the parts of the elder cells were there ahead
      refine ⟨ws, g1, fun es q => ?_, fun es q => ?_⟩
      · rw [List.getElem?_append_left hs] at q
        exact RepL.mono sb2 _ _ (h3 r b _ ws e' q g1)
      · rw [List.getElem?_append_left hs] at q
        exact RepL.mono sb2 _ _ (h3 r b _ ws e' q g1)
    · rw [List.getElem?_append_right (by omega)] at e'
      cases hk : r - φ.as.length with
      | succ k => rw [hk] at e'; simp at e'
      | zero =>
        rw [hk] at e'
        simp at e'
        subst e'
        have hrl : r = S.length := by rw [← c.len]; omega
        refine ⟨vs, h1, fun es q => ?_, fun es q => ?_⟩
        · rw [hrl, List.getElem?_append_right (by omega), Nat.sub_self] at q
          simp at q
          subst q
          exact RepL.mono sb2 _ _ h2
        · rw [hrl, List.getElem?_append_right (by omega), Nat.sub_self] at q
          simp at q
end
end UI
namespace UI
open PySem L2
section
variable {X : Cx} {W : Wy} {pos : Pos} {a b e : Expr} {ca cb ce : Ev}
theorem ook_non {K : PySem.W.Frag} {φ : Fm} {S : Store} {H₀ H : Hp} : OOk K φ H₀ S H (.val .non) .non := by
  show Rep K (hid φ S H) .non .non
  simp [Rep]
theorem ss_next_nil : PSs X [] (tS X.K W sNext) := PSs.imp pss_nil fun D σ H h => by
  obtain ⟨φ, ρ, S, st, g⟩ := h
  exact g φ σ H (.refl st.cells) st
theorem ss_pass : PS X (.Pass pos) (tS X.K W sNext) := PS.imp ps_pass fun D σ H h => by
  obtain ⟨φ, ρ, S, st, g⟩ := h
  exact g φ σ H (.refl st.cells) st
theorem ss_brk : PS X (.Break pos) (tS X.K W sBrk) := PS.imp ps_break fun D σ H h => by
  obtain ⟨φ, ρ, S, st, g⟩ := h
  exact g φ σ H (.refl st.cells) st
theorem ss_ct : PS X (.Continue pos) (tS X.K W sCt) := PS.imp ps_continue fun D σ H h => by
  obtain ⟨φ, ρ, S, st, g⟩ := h
  exact g φ σ H (.refl st.cells) st
theorem tS_seq {K : PySem.W.Frag} {c d : Sv} {D : Ends} {σ : L2.St} {H : Hp} (h : tS K W (sSeq c d) D σ H) : tS K W c { D with nx := tS K W d D } σ H := by
  obtain ⟨φ, ρ, S, st, g⟩ := h
  refine ⟨φ, ρ, S, st, ?_⟩
  unfold sSeq at g
  cases e : c ρ S with
  | nx ρ1 S1 =>
    rw [e] at g
    exact fun φ' σ' H' s st' => ⟨φ', ρ1, S1, st', GS.shift s g⟩
  | ret o S1 => rw [e] at g; exact g
  | brk ρ1 S1 => rw [e] at g; exact g
  | ct ρ1 S1 => rw [e] at g; exact g
  | exc x ρ1 S1 => rw [e] at g; exact g
  | bad => rw [e] at g; exact g
theorem ss_cons {s : Stmt} {ss : List Stmt} {c d : Sv} (h1 : PS X s (tS X.K W c)) (h2 : PSs X ss (tS X.K W d)) : PSs X (s :: ss) (tS X.K W (sSeq c d)) :=
  PSs.imp (pss_cons h1 h2) fun D σ H h => tS_seq h
theorem ss_one {s : Stmt} {c : Sv} (h1 : PS X s (tS X.K W c)) : PSs X [s] (tS X.K W c) := pss_one h1
theorem ss_if {t : Expr} {tt : Tv} {xs ys : List Stmt} {c d : Sv} (ht : PT X t (tT X.K W tt)) (h1 : PSs X xs (tS X.K W c)) (h2 : PSs X ys (tS X.K W d)) : PS X (.If t xs ys pos) (tS X.K W (sIf tt c d)) := by
  refine PS.imp (ps_if ht h1 h2) fun D σ H h => ?_
  obtain ⟨φ, ρ, S, st, g⟩ := h
  refine tT.firstS st g fun k S1 H1 s1 g1 => ?_
  cases k with
  | true => exact ⟨φ, ρ, S1, st.step s1, g1⟩
  | false => exact ⟨φ, ρ, S1, st.step s1, g1⟩
theorem ss_ret (he : PE X e (tE X.K W ce)) : PS X (.Return (some e) pos) (tS X.K W (sRet ce)) := by
  refine PS.imp (ps_ret he) fun D σ H h => ?_
  obtain ⟨φ, ρ, S, st, g⟩ := h
  exact ⟨φ, ρ, S, st, (GG.ofS st g).mono fun o S1 g1 v H1 s q => g1 φ v H1 s.g q⟩
theorem ss_retN : PS X (.Return none pos) (tS X.K W sRetN) := PS.imp ps_retN fun D σ H h => by
  obtain ⟨φ, ρ, S, st, g⟩ := h
  exact g φ .non H (.refl st.cells) ook_non
theorem ss_drop (he : PE X e (tE X.K W ce)) (hs : swapsWith e none pos.line X.env = pure false) : PS X (.Expr e pos) (tS X.K W (sDrop ce)) := by
  refine PS.imp (ps_expr he hs) fun D σ H h => ?_
  obtain ⟨φ, ρ, S, st, g⟩ := h
  exact tE.firstS st g fun o S1 v H1 s1 q1 g1 => g1 φ σ H1 (.refl s1.cells) (st.step s1)
theorem tAsg_set {K : PySem.W.Frag} {i : Nat} {D : Ends} {σ : L2.St} {H : Hp} (h : tS K W (sSet i ce) D σ H) : tAsg (tE K W ce) (gName i) D σ H := by
  obtain ⟨φ, ρ, S, st, g⟩ := h
  refine tE.firstS st g fun o S1 v H1 s1 q1 g1 => ?_
  split at g1
  · exact g1 φ _ H1 (.refl s1.cells) ((st.step s1).put (slOk_norm q1.w st.cells))
  · exact g1.elim
theorem tAsg_setM {K : PySem.W.Frag} {i : Nat} {D : Ends} {σ : L2.St} {H : Hp} (h : tS K W (sSetM i ce) D σ H) : tAsg (tE K W ce) (gName i) D σ H := by
  obtain ⟨φ, ρ, S, st, g⟩ := h
  refine ⟨φ, ρ, S, st, (GG.ofS st g).mono fun o S1 g1 v H1 s1 q1 => ?_⟩
  split at g1
  · rename_i hi
    cases o with
    | val d => exact g1 φ _ H1 s1.g ((st.step s1).put q1)
    | ptr r => exact g1 φ _ H1 s1.g ((st.step s1).put q1)
    | fr ds =>
      obtain ⟨a, rfl, h0, c', sb⟩ := cell_new st.cells s1.cells q1 s1.sub
      have sb' : Sub (hid φ S H) (hid ⟨φ.as ++ [a], φ.z⟩ (S1 ++ [.lst ds]) H1) := fun b o e => sb b o (by rw [hid_sub _ _ e]; simp) (s1.sub b o e)
      refine g1 ⟨φ.as ++ [a], φ.z⟩ _ H1 ⟨sb', c', s1.ex, s1.keep, fun _ h => h, [a], rfl, fun x hx => by simp at hx; rw [hx]; exact h0⟩ ?_
      refine St0.put ⟨c', fun j o e => ?_, st.len, fun q e1 e2 => ⟨(st.xi q e1 e2).1, (st.xi q e1 e2).2.mono sb'⟩⟩ (show SlOk K _ _ H1 (.ptr S1.length) (.ref a) from ⟨a, rfl, ?_⟩)
      · obtain ⟨w, h1, h2⟩ := st.slots j o e
        refine ⟨w, h1, ?_⟩
        cases o with
        | val d => exact Rep.mono sb' _ _ h2
        | fr es => exact h2.elim
        | ptr r =>
          obtain ⟨b, rfl, h3⟩ := h2
          exact ⟨b, rfl, by
            show (φ.as ++ [a])[r]? = some b
            rw [List.getElem?_append_left (List.getElem?_eq_some_iff.mp h3).1]
            exact h3⟩
      · show (φ.as ++ [a])[S1.length]? = some a
        rw [← s1.cells.len, List.getElem?_append_right (Nat.le_refl _), Nat.sub_self]
        rfl
  · exact g1.elim
theorem ss_set {i : Nat} {x : Str} {pos' : Pos} (hN : X.N.Nodup) (hi : X.N[i]? = some x) (hx : Loc X.env.scope x) (he : PE X e (tE X.K W ce)) (hs : swapsWith e (some (.Name x pos')) pos.line X.env = pure false) (hf : X.fn x = true ∨ X.env.scope.names.lookup x = some .local) : PS X (.Assign [.Name x pos'] e pos) (tS X.K W (sSet i ce)) :=
  PS.imp (ps_set hN hi hx he hs hf) fun D σ H h => tAsg_set h
theorem ss_setM {i : Nat} {x : Str} {pos' : Pos} (hN : X.N.Nodup) (hi : X.N[i]? = some x) (hx : Loc X.env.scope x) (he : PE X e (tE X.K W ce)) (hs : swapsWith e (some (.Name x pos')) pos.line X.env = pure false) (hf : X.fn x = true ∨ X.env.scope.names.lookup x = some .local) : PS X (.Assign [.Name x pos'] e pos) (tS X.K W (sSetM i ce)) :=
  PS.imp (ps_set hN hi hx he hs hf) fun D σ H h => tAsg_setM h

/-! ### an owned list is changed -/
theorem own_at {ξ : Option Hx} {K : PySem.W.Frag} {φ : Fm} {ρ : Env} {S : Store} {σ : L2.St} {H : Hp} {i r : Nat} {ds : List D} (st : St0 ξ K φ ρ S σ H) (h : ownAt i ρ S = some (r, ds)) :
    ∃ a vs, σ[i]? = some (some (.ref a)) ∧ φ.as[r]? = some a ∧ S[r]? = some (.lst ds) ∧ H a = some (.lst vs) ∧ RepL K (hid φ S H) ds vs := by
  unfold ownAt at h
  split at h
  · rename_i r' e
    split at h
    · rename_i es q
      cases h
      obtain ⟨v, h1, a, rfl, h2⟩ := st.slots _ _ e
      obtain ⟨vs, h3, h4, _⟩ := st.cells.at_ _ a h2
      exact ⟨a, vs, h1, h2, q, h3, h4 _ q⟩
    · cases h
  · cases h
theorem cell_put {K : PySem.W.Frag} {φ : Fm} {S : Store} {H : Hp} {r : Nat} {a : Addr} {ds es : List D} {ws : List V} (c : Cells K φ S H) (ha : φ.as[r]? = some a) (hS : S[r]? = some (.lst ds)) (hr : RepL K (hid φ S H) es ws) :
    Stp K φ S H (S.set r (.lst es)) (upd H a (.lst ws)) := by
  have hl : r < S.length := (List.getElem?_eq_some_iff.mp hS).1
  have oa : ownA φ S a := .inr ⟨r, ha, by rw [hS]; rfl⟩
  have own : ∀ b, ownA φ (S.set r (.lst es)) b → ownA φ S b := fun b q => by
    rcases q with z | ⟨r', e1, e2⟩
    · exact .inl z
    · refine .inr ⟨r', e1, ?_⟩
      by_cases h : r = r'
      · subst h
        rw [hS]
        rfl
      · rw [List.getElem?_set_ne h] at e2
        exact e2
  have sb : Sub (hid φ S H) (hid φ (S.set r (.lst es)) (upd H a (.lst ws))) := fun b o e => by
    obtain ⟨n, e⟩ := hid_inv e
    have hb : b ≠ a := fun z => n (by rw [z]; exact oa)
    exact hid_of (fun z => n (own b z)) (by rw [upd_ne hb]; exact e)
  obtain ⟨vs, h1, _, _⟩ := c.at_ r a ha
  refine ⟨sb, ⟨by rw [List.length_set]; exact c.len, c.nd, fun b z => ?_, c.zd, fun r' b hb => ?_⟩, fun b hb => ?_, fun b z => upd_ne fun e => c.zd r a ha (by rw [← e]; exact z)⟩
  · by_cases h : b = a
    · rw [h, upd_same]; simp
    · rw [upd_ne h]; exact c.zt b z
  · by_cases h : r = r'
    · subst h
      have : b = a := Option.some.inj (hb.symm.trans ha)
      subst this
      refine ⟨ws, upd_same, fun xs q => ?_, fun xs q => ?_⟩
      · rw [List.getElem?_set_self hl] at q
        cases q
        exact RepL.mono sb _ _ hr
      · rw [List.getElem?_set_self hl] at q
        cases q
    · have hn : b ≠ a := fun e => h (nodup_get c.nd ha (by rw [← e]; exact hb))
      obtain ⟨vs', g1, g2, g3⟩ := c.at_ r' b hb
      refine ⟨vs', by rw [upd_ne hn]; exact g1, fun xs q => ?_, fun xs q => ?_⟩
      · rw [List.getElem?_set_ne h] at q
        exact RepL.mono sb _ _ (g2 xs q)
      · rw [List.getElem?_set_ne h] at q
        exact RepL.mono sb _ _ (g3 xs q)
  · by_cases h : b = a
    · rw [h, upd_same]; simp
    · rw [upd_ne h]; exact hb
/-- an operand given up -/
theorem force_GG {α : Type} {K : PySem.W.Frag} {φ : Fm} {ρ : Env} {S₀ S : Store} {σ : L2.St} {H₀ H : Hp} {o : O} {v : V} {f : D → Store → Out α} {R : α → Store → Prop} (q : OOkW K φ H₀ S H o v) (c₀ : Cells K φ S₀ H₀) (c : Cells K φ S H) (g : GG K W φ S H σ R ((force o S).bind f)) :
    ∃ d S', force o S = .ok d S' ∧ Stp K φ S H S' H ∧ Rep K (hid φ S' H) d v ∧ GG K W φ S' H σ R (f d S') := by
  have g2 := g.bind
  cases e : force o S with
  | bad => rw [e] at g2; exact g2.elim
  | exc x S2 =>
    cases o <;> simp only [force, reduceCtorEq] at e
    rename_i r
    cases q : S[r]? with
    | none => rw [q] at e; cases e
    | some c' => rw [q] at e; cases c' <;> cases e
  | ok d S2 =>
    rw [e] at g2
    obtain ⟨s2, r2⟩ := force_ok q c₀ c e
    exact ⟨d, S2, rfl, s2, r2, GG.shift s2 g2⟩
theorem force_GG0 {K : PySem.W.Frag} {φ : Fm} {S₀ S : Store} {σ : L2.St} {H₀ H : Hp} {o : O} {v : V} {R : D → Store → Prop} (q : OOkW K φ H₀ S H o v) (c₀ : Cells K φ S₀ H₀) (c : Cells K φ S H) (g : GG K W φ S H σ R (force o S)) :
    ∃ d S', force o S = .ok d S' ∧ Stp K φ S H S' H ∧ Rep K (hid φ S' H) d v ∧ R d S' := by
  have e0 : (force o S).bind (fun d S' => .ok d S') = force o S := by cases force o S <;> rfl
  rw [← e0] at g
  obtain ⟨d, S', e, s, r, g⟩ := force_GG (ρ := []) q c₀ c g
  exact ⟨d, S', e, s, r, g⟩
theorem ss_app {i : Nat} {x : Str} {p1 p2 cpos : Pos} (hN : X.N[i]? = some x) (hv : Vis X.env.scope x) (hd : (x == ("__debug__" : Str)) = false) (hcd : (x == ("__classdict__" : Str)) = false) (hline : (p2.endLine == cpos.line) = true) (he : PE X e (tE X.K W ce)) (hs : ∀ e' p, e ≠ .Starred e' p) :
    PS X (.Expr (.Call (.Attribute (.Name x p1) "append" p2) [e] [] cpos) pos) (tS X.K W (sApp i ce)) := by
  refine PS.imp (ps_expr (pe_bm PySem.F.plainAttrs_list PySem.F.slot_list_append PySem.F.type_list_append mt_append (pe_var hN hv hd hcd) (pa_cons he pa_nil (starEach_cons hs)) rfl (by rw [starEach_cons hs]; rfl) hline (starEach_cons hs) rfl)) fun D σ H h => ?_
  obtain ⟨φ, ρ, S, st, g⟩ := h
  unfold sApp at g
  split at g
  · rename_i hs
    obtain ⟨⟨r, ds⟩, e0⟩ := Option.isSome_iff_exists.mp hs
    obtain ⟨a, vs, h1, h2, h3, h4, h5⟩ := own_at st e0
    refine ⟨.ref a, h1, .inl ⟨rfl, vs, .inl (.inl h4)⟩, ?_⟩
    refine ⟨φ, ρ, S, st, (GG.ofS st g).bind.mono fun o S1 g1 v H1 s1 q1 => ?_⟩
    obtain ⟨d, S2, e1, s2, r2, g2⟩ := force_GG0 (q1.w) st.cells s1.cells (GG.shift s1 g1)
    have s12 := s1.trans s2
    have st2 := st.step s12
    split at g2
    · rename_i r' ds' e2
      split at g2
      · rename_i hz
        obtain ⟨a', vs', g3, g4, g5, g6, g7⟩ := own_at st2 e2
        rw [h1] at g3
        cases g3
        have s3 := cell_put s12.cells g4 g5 (g7.append (RepL.one r2))
        refine ⟨a, vs', v, rfl, rfl, g6, by rw [g7.length]; exact hz, g2 φ σ _ (s12.trans s3).g (st2.step s3)⟩
      · exact g2.elim
    · exact g2.elim
  · exact g.elim
theorem intD_of {K : PySem.W.Frag} {Hh H : Hp} {d : D} {v : V} {k : Int} (r : RepT K Hh H d v) (h : intD d = some k) : v = .int k := by
  cases d <;> simp only [intD, Option.some.injEq, reduceCtorEq] at h
  subst h
  exact r
theorem tSet_ix {K : PySem.W.Frag} {i : Nat} {D : Ends} {σ : L2.St} {H : Hp} (h : tS K W (sSetIx i ca ce) D σ H) : tAsg (tE K W ce) (gSub (tVar i) (tE K W ca) rSetL) D σ H := by
  obtain ⟨φ, ρ, S, st, g⟩ := h
  unfold sSetIx at g
  split at g
  · rename_i hs
    obtain ⟨⟨r, ds⟩, e0⟩ := Option.isSome_iff_exists.mp hs
    obtain ⟨a, vs, h1, h2, h3, h4, h5⟩ := own_at st e0
    refine ⟨φ, ρ, S, st, (GG.ofS st g).bind.mono fun o S1 g1 v H1 s1 q1 => ?_⟩
    obtain ⟨d, S2, e1, s2, r2, g2⟩ := force_GG (ρ := ρ) q1.w st.cells s1.cells (GG.shift s1 g1)
    have s12 := s1.trans s2
    have st2 := st.step s12
    refine ⟨.ref a, h1, ?_⟩
    refine tE.first st2 g2 fun y S3 w H3 s3 q3 g3 => ?_
    obtain ⟨k, e3, g4⟩ := g3.bind.of
    cases e4 : look y S3 with
    | none => rw [e4] at e3; cases e3
    | some dy =>
      rw [e4] at e3
      have hw := intD_of (look_ok q3.w s3.cells e4) e3
      subst hw
      have s123 := s12.trans s3
      have st3 := st.step s123
      have g5 : GS K W φ S H D (match ownAt i ρ S3 with
        | some (r, ds) => match L2.ixN ds.length k with
          | some j => .nx ρ (S3.set r (.lst (ds.set j d)))
          | none => .bad
        | none => .bad) := g4
      split at g5
      · rename_i r' ds' e5
        obtain ⟨a', vs', g6, g7, g8, g9, g10⟩ := own_at st3 e5
        rw [h1] at g6
        cases g6
        split at g5
        · rename_i j hj
          have s4 := cell_put s123.cells g7 g8 (g10.set j (Rep.mono s3.sub _ _ r2))
          exact ⟨a, vs', k, j, rfl, rfl, g9, by rw [g10.length]; exact hj, g5 φ σ _ (s123.trans s4).g (st3.step s4)⟩
        · exact g5.elim
      · exact g5.elim
  · exact g.elim
theorem ss_setIx {i : Nat} {x : Str} {p1 p2 : Pos} (hN : X.N[i]? = some x) (hv : Vis X.env.scope x) (hd : (x == ("__debug__" : Str)) = false) (hcd : (x == ("__classdict__" : Str)) = false) (ha : PE X a (tE X.K W ca)) (he : PE X e (tE X.K W ce))
    (hsub : PS X (.Assign [.Subscript (.Name x p1) a p2] e pos) (tAsg (tE X.K W ce) (gSub (tVar i) (tE X.K W ca) rSetL))) : PS X (.Assign [.Subscript (.Name x p1) a p2] e pos) (tS X.K W (sSetIx i ca ce)) :=
  PS.imp hsub fun D σ H h => tSet_ix h

/-! ### targets -/
/-- a target's reading -/
structure SG (K : PySem.W.Frag) (g : Gv) (t : TG) : Prop where
  run : ∀ (ξ : Option Hx) (φ : Fm) (ρ ρ1 : Env) (S : Store) (σ : L2.St) (H : Hp) (d : D) (v : V) (Q : L2.St → Hp → Prop), St0 ξ K φ ρ S σ H → Rep K (hid φ S H) d v → g d ρ = some ρ1 → (∀ σ', St0 ξ K φ ρ1 S σ' H → Q σ' H) → t v σ H Q
theorem sg_name {K : PySem.W.Frag} {i : Nat} : SG K (gNm i) (gName i) := ⟨fun ξ φ ρ ρ1 S σ H d v Q st r e k => by
  unfold gNm at e
  split at e
  · cases e
    exact k _ (st.put r)
  · cases e⟩
/-- names in a row -/
def gNamesT : List Nat → TGs
  | [] => gNil
  | i :: is => gCons (gName i) (gNamesT is)
theorem names_run {ξ : Option Hx} {K : PySem.W.Frag} {φ : Fm} {S : Store} {H : Hp} {Q : L2.St → Hp → Prop} : ∀ (is : List Nat) (ds : List D) (vs : List V) (ρ ρ1 : Env) (σ : L2.St), St0 ξ K φ ρ S σ H → RepL K (hid φ S H) ds vs → gNms is ds ρ = some ρ1 → (∀ σ', St0 ξ K φ ρ1 S σ' H → Q σ' H) → gNamesT is vs σ H Q
  | [], [], vs, ρ, ρ1, σ, st, r, e, k => by
    simp only [RepL] at r
    cases e
    exact ⟨r, k σ st⟩
  | [], d :: ds, vs, ρ, ρ1, σ, st, r, e, k => by cases e
  | i :: is, [], vs, ρ, ρ1, σ, st, r, e, k => by cases e
  | i :: is, d :: ds, vs, ρ, ρ1, σ, st, r, e, k => by
    simp only [RepL] at r
    obtain ⟨v, w, rfl, r1, r2⟩ := r
    simp only [gNms] at e
    cases e1 : gNm i d ρ with
    | none => rw [e1] at e; cases e
    | some ρ2 =>
      rw [e1] at e
      refine ⟨v, w, rfl, ?_⟩
      exact (sg_name (K := K) (i := i)).run ξ φ ρ ρ2 S σ H d v _ st r1 e1 fun σ' st' => names_run is ds w ρ2 ρ1 σ' st' r2 e k
theorem gNms_len : ∀ {is : List Nat} {ds : List D} {ρ ρ1 : Env}, gNms is ds ρ = some ρ1 → ds.length = is.length
  | [], [], _, _, _ => rfl
  | [], _ :: _, _, _, e => by cases e
  | _ :: _, [], _, _, e => by cases e
  | i :: is, d :: ds, ρ, ρ1, e => by
    simp only [gNms] at e
    cases e1 : gNm i d ρ with
    | none => rw [e1] at e; cases e
    | some ρ2 =>
      rw [e1] at e
      rw [List.length_cons, List.length_cons, gNms_len e]
theorem sg_tup {K : PySem.W.Frag} {is : List Nat} {n : Nat} (hn : n = is.length) : SG K (gTp is) (gTup K n (gNamesT is)) := ⟨fun ξ φ ρ ρ1 S σ H d v Q st r e k => by
  subst hn
  unfold gTp at e
  cases e1 : tupOf d with
  | none => rw [e1] at e; cases e
  | some ds =>
    rw [e1] at e
    cases d <;> simp only [tupOf, Option.some.injEq, reduceCtorEq] at e1
    subst e1
    simp only [Rep] at r
    obtain ⟨a, vs, rfl, h1, h2⟩ := r
    exact ⟨a, vs, rfl, sub_t hid_sub h1, h2.length.trans (gNms_len e), names_run is _ vs ρ ρ1 σ st h2 e k⟩⟩

/-! ### what a for walks -/
/-- the iterator J hands out the items ds, whatever is done meanwhile -/
def ItOk (K : PySem.W.Frag) (φ : Fm) (S : Store) (H : Hp) (ds : List D) (J : It) : Prop := ∀ φ' S' H', GStp K φ S H φ' S' H' → J.stop ds.length H' ∧ ∀ i, i < ds.length → J.go i H' ∧ ∀ x H'', J.yld i H' x H'' → Stp K φ' S' H' S' H'' ∧ ∃ d, ds[i]? = some d ∧ Rep K (hid φ' S' H'') d x
def tI (K : PySem.W.Frag) (W : Wy) (c : Lv) : TI := fun σ H R => ∃ φ ρ S, St0 W.x K φ ρ S σ H ∧ GG K W φ S H σ (fun ds S' => ∀ J H', Stp K φ S H S' H' → ItOk K φ S' H' ds J → R J H') (c ρ S)
theorem it_list {K : PySem.W.Frag} {φ : Fm} {S : Store} {H : Hp} {a : Addr} {ds : List D} {vs : List V} (h : SqL K (hid φ S H) a vs) (r : RepL K (hid φ S H) ds vs) : ItOk K φ S H ds (Itl K a) := fun φ' S' H' s => by
  have h' : SqL K H' a vs := sub_l hid_sub (sub_l s.sub h)
  refine ⟨⟨vs, h', by rw [r.length]; exact Nat.le_refl _⟩, fun i hi => ?_⟩
  obtain ⟨v, e1, e2⟩ := (RepL.mono s.sub _ _ r).get (i := i) (List.getElem?_eq_getElem hi)
  refine ⟨⟨vs, v, h', e1⟩, fun x H'' y => ?_⟩
  obtain ⟨rfl, y⟩ := y
  have := y vs h'
  rw [e1] at this
  cases this
  exact ⟨.refl s.cells, _, List.getElem?_eq_getElem hi, e2⟩
theorem it_tup {K : PySem.W.Frag} {φ : Fm} {S : Store} {H : Hp} {a : Addr} {ds : List D} {vs : List V} (h : SqT K (hid φ S H) a vs) (r : RepL K (hid φ S H) ds vs) : ItOk K φ S H ds (Itt K a) := fun φ' S' H' s => by
  have h' : SqT K H' a vs := sub_t hid_sub (sub_t s.sub h)
  refine ⟨⟨vs, h', by rw [r.length]; exact Nat.le_refl _⟩, fun i hi => ?_⟩
  obtain ⟨v, e1, e2⟩ := (RepL.mono s.sub _ _ r).get (i := i) (List.getElem?_eq_getElem hi)
  refine ⟨⟨vs, v, h', e1⟩, fun x H'' y => ?_⟩
  obtain ⟨rfl, y⟩ := y
  have := y vs h'
  rw [e1] at this
  cases this
  exact ⟨.refl s.cells, _, List.getElem?_eq_getElem hi, e2⟩
theorem it_rng {K : PySem.W.Frag} {φ : Fm} {S : Store} {H : Hp} {lo : Int} {n : Nat} : ItOk K φ S H (rngD lo n) (Itr lo n) := fun φ' S' H' s => by
  have hl : (rngD lo n).length = n := by simp [rngD]
  refine ⟨by rw [hl]; exact Nat.le_refl _, fun i hi => ⟨by rw [hl] at hi; exact hi, fun x H'' y => ?_⟩⟩
  obtain ⟨rfl, rfl⟩ := y
  rw [hl] at hi
  exact ⟨.refl s.cells, .int (lo + i), by simp [rngD, hi], by simp [Rep]⟩
theorem PI.or {tg : Expr} {t t' : TI} (h : PI X tg e t) (h' : PI X tg e t') : PI X tg e (fun σ H R => t σ H R ∨ t' σ H R) := ⟨fun pins s σ H R I q => q.elim (h.run pins s σ H R I) (h'.run pins s σ H R I)⟩
/-- a list or a tuple by value -/
def iLT (K : PySem.W.Frag) (te : TE) : TI := fun σ H R => te σ H fun x H1 => (∃ a, x = .ref a ∧ ((∃ xs, SqL K H1 a xs) ∧ R (Itl K a) H1 ∨ (∃ xs, SqT K H1 a xs) ∧ R (Itt K a) H1)) ∨ ∃ z, x = .str z ∧ R (Its z) H1
theorem pi_lt {tg : Expr} {te : TE} (he : PE X e te) : PI X tg e (iLT X.K te) := by
  refine ⟨fun pins s σ H R I h => ?_⟩
  refine thn (he.run pins s σ H _ I h) fun v s1 ⟨x, H1, I1, r1, q1⟩ => ?_
  obtain ⟨a, e, ⟨⟨xs, hq⟩, q⟩ | ⟨⟨xs, hq⟩, q⟩⟩ | ⟨z, e, q⟩ := q1
  · subst e
    cases r1
    obtain ⟨its, rv, p, hz⟩ := I1.list hq
    refine PySem.wpAny_pyIter_list p.isList ?_
    refine ⟨s1.heap.objs.size, [s1.heap.objs.size], _, _, H1, rfl, I1.kept (t' := s1.toks) fun b o e => Heap.get?_push_of_some _ e, turn_list a _, ⟨_, Heap.get?_push_size _ rfl, rfl, rfl⟩, fun b hb => ?_, q⟩
    have e : b = s1.heap.objs.size := by simpa using hb
    subst e
    exact I1.fpOk (Nat.le_refl _) (I1.hok.fresh (Nat.le_refl _))
  · subst e
    cases r1
    obtain ⟨its, rv, p, hz⟩ := I1.tuple hq
    refine PySem.wpAny_pyIter_tuple (show s1.heap.IsTuple a its.toArray from p) ?_
    refine ⟨s1.heap.objs.size, [s1.heap.objs.size], _, _, H1, rfl, I1.kept (t' := s1.toks) fun b o e => Heap.get?_push_of_some _ e, turn_tuple a _, ⟨_, Heap.get?_push_size _ rfl, rfl, rfl⟩, fun b hb => ?_, q⟩
    have e : b = s1.heap.objs.size := by simpa using hb
    subst e
    exact I1.fpOk (Nat.le_refl _) (I1.hok.fresh (Nat.le_refl _))
  · subst e
    obtain ⟨t, rfl⟩ := r1
    cases hz : z.cps.all (· < 128) with
    | false =>
      refine wpAny_pyIter_wide hz ?_
      exact pi_one (tk := s1.toks) I1 _ (turn_str _ z t "str_iterator" (Or.inr rfl)) ⟨_, Heap.get?_push_size _ rfl, rfl, rfl⟩ q
    | true =>
      refine wpAny_pyIter_ascii hz ?_
      exact pi_one (tk := s1.toks) I1 _ (turn_str _ z t "str_ascii_iterator" (Or.inl rfl)) ⟨_, Heap.get?_push_size _ rfl, rfl, rfl⟩ q
theorem it_str {K : PySem.W.Frag} {φ : Fm} {S : Store} {H : Hp} {x : Str} : ItOk K φ S H (x.cps.toList.map fun c => .str ⟨#[c]⟩) (Its x) := fun φ' S' H' s => by
  have hl : (x.cps.toList.map fun c => D.str ⟨#[c]⟩).length = x.cps.size := by simp
  rw [hl]
  refine ⟨Nat.le_refl _, fun i hi => ⟨hi, fun v H'' y => ?_⟩⟩
  obtain ⟨rfl, c, hc, rfl⟩ := y
  refine ⟨.refl s.cells, .str ⟨#[c]⟩, ?_, by simp only [Rep]⟩
  rw [List.getElem?_map, Array.getElem?_toList, hc]
  rfl
theorem si_val {tg : Expr} (he : PE X e (tE X.K W ce)) : PI X tg e (tI X.K W (iVal ce)) := by
  refine PI.imp (pi_lt he) fun σ H R h => ?_
  obtain ⟨φ, ρ, S, st, g⟩ := h
  refine tE.first st g fun o S1 v H1 s1 q1 g1 => ?_
  obtain ⟨d, S2, e1, s2, r2, g2⟩ := force_GG (ρ := ρ) q1.w st.cells s1.cells g1
  obtain ⟨ds, e2, g3⟩ := g2.of
  have s12 := s1.trans s2
  cases d <;> simp only [itemsS, itemsOf, Option.some.injEq, reduceCtorEq] at e2
  · subst e2
    simp only [Rep] at r2
    exact .inr ⟨_, r2, g3 _ H1 s12 it_str⟩
  · subst e2
    simp only [Rep] at r2
    obtain ⟨a, vs, rfl, h1, h2⟩ := r2
    exact .inl ⟨a, rfl, .inr ⟨⟨vs, sub_t hid_sub h1⟩, g3 _ H1 s12 (it_tup h1 h2)⟩⟩
  · subst e2
    simp only [Rep] at r2
    obtain ⟨a, vs, rfl, h1, h2⟩ := r2
    exact .inl ⟨a, rfl, .inl ⟨⟨vs, .inl (.inl (hid_sub _ _ h1))⟩, g3 _ H1 s12 (it_list (.inl (.inl h1)) h2)⟩⟩
  · subst e2
    simp only [Rep] at r2
    obtain ⟨a, vs, rfl, h1, h2⟩ := r2
    exact .inl ⟨a, rfl, .inl ⟨⟨vs, sub_l hid_sub h1⟩, g3 _ H1 s12 (it_list h1 h2)⟩⟩
theorem si_rng1 {tg : Expr} {p : Pos} (hg : Gl X "range") (hm : X.mg "range" = none) (ha : PE X a (tE X.K W ca)) (hs : ∀ e' p, a ≠ .Starred e' p) : PI X tg (.Call (.Name "range" p) [a] [] pos) (tI X.K W (iRng1 ca)) := by
  refine PI.imp (pi_range1 hg hm (pa_cons ha pa_nil (starEach_cons hs)) (starEach_cons hs)) fun σ H R h => ?_
  obtain ⟨φ, ρ, S, st, g⟩ := h
  refine tE.first st g fun o S1 v H1 s1 q1 g1 => ?_
  obtain ⟨k, e3, g4⟩ := g1.bind.of
  cases e4 : look o S1 with
  | none => rw [e4] at e3; cases e3
  | some dy =>
    rw [e4] at e3
    have hw := intD_of (look_ok q1.w s1.cells e4) e3
    subst hw
    split at g4
    · rename_i hb
      exact ⟨k, rfl, hb.1, hb.2, g4 _ H1 s1 it_rng⟩
    · exact g4.elim
theorem si_rng2 {tg : Expr} {p : Pos} (hg : Gl X "range") (hm : X.mg "range" = none) (ha : PE X a (tE X.K W ca)) (hb : PE X b (tE X.K W cb)) (hs : ∀ e' p, a ≠ .Starred e' p) (hs2 : ∀ e' p, b ≠ .Starred e' p) : PI X tg (.Call (.Name "range" p) [a, b] [] pos) (tI X.K W (iRng2 ca cb)) := by
  refine PI.imp (pi_range2 hg hm (pa_cons ha (pa_cons hb pa_nil (starEach_cons hs2)) (starEach_cons hs)) (by rw [starEach_cons hs, starEach_cons hs2]; rfl) (starEach_cons hs2)) fun σ H R h => ?_
  obtain ⟨φ, ρ, S, st, g⟩ := h
  refine tE.first st g fun o S1 v H1 s1 q1 g1 => ?_
  refine tE.first (st.step s1) g1 fun o2 S2 v2 H2 s2 q2 g2 => ?_
  have g3 := g2.bind
  obtain ⟨i, e3, g4⟩ := g3.of
  obtain ⟨j, e5, g6⟩ := g4.bind.of
  have q1' := q1.step (c := st.cells) o v s2
  cases e4 : look o S2 with
  | none => rw [e4] at e3; cases e3
  | some dy =>
    rw [e4] at e3
    have hw := intD_of (look_ok q1' s2.cells e4) e3
    subst hw
    cases e7 : look o2 S2 with
    | none => rw [e7] at e5; cases e5
    | some dz =>
      rw [e7] at e5
      have hw2 := intD_of (look_ok q2.w s2.cells e7) e5
      subst hw2
      split at g6
      · rename_i hb
        exact ⟨i, j, rfl, hb, g6 _ H2 (s1.trans s2) it_rng⟩
      · exact g6.elim

/-! ### loops -/
def Later (K : PySem.W.Frag) (W : Wy) (φ : Fm) (S : Store) (H : Hp) (D : Ends) (k : Env → Store → SO) : L2.St → Hp → Prop := fun σ2 H2 => ∃ φ2 ρ2 S2, St0 W.x K φ2 ρ2 S2 σ2 H2 ∧ GStp K φ S H φ2 S2 H2 ∧ GS K W φ S H D (k ρ2 S2)
theorem GS.loop {K : PySem.W.Frag} {φ φ' : Fm} {S S' : Store} {H H' : Hp} {D : Ends} {o : SO} {k : Env → Store → SO} (s : GStp K φ S H φ' S' H') (h : GS K W φ S H D (loopK o k)) : GS K W φ' S' H' { D with nx := Later K W φ S H D k, ct := Later K W φ S H D k, bk := D.nx } o := by
  cases o with
  | nx ρ2 S2 => exact fun φ2 σ4 H4 s4 st4 => ⟨φ2, ρ2, S2, st4, s.trans s4, h⟩
  | ct ρ2 S2 => exact fun φ2 σ4 H4 s4 st4 => ⟨φ2, ρ2, S2, st4, s.trans s4, h⟩
  | brk ρ2 S2 => exact fun φ2 σ4 H4 s4 st4 => h φ2 σ4 H4 (s.trans s4) st4
  | ret o S2 => exact fun φ2 v H4 s4 q4 => h φ2 v H4 (s.trans s4) (q4.back s.ex)
  | exc x ρ2 S2 => exact fun φ2 C d σ4 H4 s4 st4 q4 => h φ2 C d σ4 H4 (s.trans s4) st4 q4
  | bad => exact h.elim
theorem ss_for {tg iter : Expr} {body : List Stmt} {g : Gv} {t : TG} {it : Lv} {c : Sv} (hp : PassesOwn (model X.prog X.w) X.A X.env X.xe) (hc : X.calm = true) (hi : PI X tg iter (tI X.K W it)) (hg : PG X tg t) (sg : SG X.K g t) (hb : PSs X body (tS X.K W c)) (hs : ∀ x, foldedSetIterable iter X.env x = pure x) :
    PS X (.For tg iter body [] pos) (tS X.K W (sFor g it c)) := by
  refine PS.imp (ps_for hp hc hi hg hb hs) fun D σ H h => ?_
  obtain ⟨φ, ρ, S, st, g0⟩ := h
  refine ⟨φ, ρ, S, st, (GG.ofS st g0).mono fun ds S1 g1 J H1 s1 hJ => ?_⟩
  have g1' := g1.shift s1.g
  refine ⟨fun i m σ' H' => m = ds.length - i ∧ i ≤ ds.length ∧ Later X.K W φ S1 H1 D (forI g c (ds.drop i)) σ' H',
    ⟨ds.length, by simp, Nat.zero_le _, φ, ρ, S1, st.step s1, .refl s1.cells, by simpa using g1'⟩, ?_⟩
  rintro i m σ' H' ⟨rfl, hi, φ', ρ', S', st', gs, g2⟩
  obtain ⟨hstop, hgo⟩ := hJ φ' S' H' gs
  by_cases hlt : i < ds.length
  · obtain ⟨go, hy⟩ := hgo i hlt
    have ed : ds.drop i = ds[i] :: ds.drop (i + 1) := by simp [hlt]
    rw [ed] at g2
    simp only [forI] at g2
    cases e1 : g ds[i] ρ' with
    | none => rw [e1] at g2; exact g2.elim
    | some ρ1 =>
      rw [e1] at g2
      refine .inr ⟨go, Later X.K W φ S1 H1 D (forI g c (ds.drop (i + 1))), fun σ2 H2 h => ⟨ds.length - (i + 1), by omega, rfl, hlt, h⟩, fun x H2 y => ?_⟩
      obtain ⟨sy, d, ed, rd⟩ := hy x H2 y
      rw [List.getElem?_eq_getElem hlt] at ed
      cases ed
      have st2 := st'.step sy
      refine sg.run _ φ' ρ' ρ1 S' σ' H2 _ x _ st2 rd e1 fun σ3 st3 => ?_
      exact ⟨φ', ρ1, S', st3, GS.loop (gs.trans sy.g) g2⟩
  · have hl : i = ds.length := by omega
    subst hl
    refine .inl ⟨hstop, ?_⟩
    rw [List.drop_length] at g2
    exact g2 φ' σ' H' gs st'
theorem ss_while {t : Expr} {body : List Stmt} {tt : Tv} {c : Sv} {m : Nat} (hp : PassesOwn (model X.prog X.w) X.A X.env X.xe) (ht : PT X t (tT X.K W tt)) (hb : PSs X body (tS X.K W c)) : PS X (.While t body [] pos) (tS X.K W (sWhile m tt c)) := by
  refine PS.imp (ps_while hp ht hb) fun D σ H h => ?_
  obtain ⟨φ, ρ, S, st, g0⟩ := h
  refine ⟨fun m σ' H' => Later X.K W φ S H D (whileI tt c m) σ' H', ⟨m, φ, ρ, S, st, .refl st.cells, g0⟩, ?_⟩
  rintro m σ' H' ⟨φ', ρ', S', st', gs, g2⟩
  cases m with
  | zero => exact g2.elim
  | succ m =>
    refine ⟨φ', ρ', S', st', ?_⟩
    have g3 : GS X.K W φ S H D (liftS ρ' (tt ρ' S') fun k S1 => if k = true then loopK (c ρ' S1) (whileI tt c m) else .nx ρ' S1) := g2
    have g4 := GG.ofS st' (GS.shift gs g3)
    cases e : tt ρ' S' with
    | bad => rw [e] at g4; exact g4.elim
    | exc x S2 => rw [e] at g4; exact g4
    | ok k S1 =>
      rw [e] at g3
      intro H1 s1
      have st1 := st'.step s1
      have gs1 := gs.trans s1.g
      cases k with
      | false => exact g3 φ' σ' H1 gs1 st1
      | true => exact ⟨Later X.K W φ S H D (whileI tt c m), fun σ2 H2 h => ⟨m, Nat.lt_succ_self _, h⟩, φ', ρ', S1, st1, GS.loop gs1 g3⟩
end
end UI
namespace UI
open PySem L2
section
variable {K : PySem.W.Frag} {W : Wy}
/-- an address more that is not spoken of -/
def Fm.hide (φ : Fm) (d : Addr) : Fm := ⟨φ.as, fun a => φ.z a ∨ a = d⟩
theorem hid_updz {φ : Fm} {S : Store} {H : Hp} {d : Addr} {o : HO} : hid (φ.hide d) S (upd H d o) = hid (φ.hide d) S H := by
  funext b
  by_cases h : b = d
  · have n : ownA (φ.hide d) S b := .inl (.inr h)
    rw [hid_own n, hid_own n]
  · unfold hid
    split
    · rfl
    · rw [upd_ne h]
theorem hid_hide {φ : Fm} {S : Store} {H : Hp} {d : Addr} : Sub (hid (φ.hide d) S H) (dl (hid φ S H) d) := fun b o e => by
  obtain ⟨n, e⟩ := hid_inv e
  have hb : b ≠ d := fun z => n (.inl (.inr z))
  refine dl_of (hid_of (fun q => n ?_) e) hb
  rcases q with z | q
  · exact .inl (.inl z)
  · exact .inr q
theorem hide_hid {φ : Fm} {S : Store} {H : Hp} {d : Addr} (h : H d = none) : Sub (hid φ S H) (hid (φ.hide d) S H) := fun b o e => by
  obtain ⟨n, e⟩ := hid_inv e
  refine hid_of (fun q => ?_) e
  rcases q with (z | rfl) | q
  · exact n (.inl z)
  · rw [h] at e; cases e
  · exact n (.inr q)
theorem Cells.hide {φ : Fm} {S : Store} {H : Hp} {d : Addr} {o : HO} (c : Cells K φ S H) (h : H d = none) : Cells K (φ.hide d) S (upd H d o) := by
  have hs : Sub (hid φ S H) (hid (φ.hide d) S (upd H d o)) := by rw [hid_updz]; exact hide_hid h
  refine ⟨c.len, c.nd, fun a z => ?_, fun r a ha z => ?_, fun r a ha => ?_⟩
  · rcases z with z | rfl
    · cases q : H a with
      | none => exact absurd q (c.zt a z)
      | some u => rw [Sub.new h a u q]; simp
    · rw [upd_same]; simp
  · rcases z with z | rfl
    · exact c.zd r a ha z
    · exact own_some c ha h
  · obtain ⟨vs, h1, h2, h3⟩ := c.at_ r a ha
    exact ⟨vs, Sub.new h _ _ h1, fun ds q => RepL.mono hs _ _ (h2 ds q), fun ds q => RepL.mono hs _ _ (h3 ds q)⟩
theorem Cells.unhide {φ : Fm} {S : Store} {H : Hp} {d : Addr} (c : Cells K (φ.hide d) S H) : Cells K φ S H := by
  have hs : Sub (hid (φ.hide d) S H) (hid φ S H) := hid_hide.trans dl_sub
  refine ⟨c.len, c.nd, fun a z => c.zt a (.inl z), fun r a ha z => c.zd r a ha (.inl z), fun r a ha => ?_⟩
  obtain ⟨vs, h1, h2, h3⟩ := c.at_ r a ha
  exact ⟨vs, h1, fun ds q => RepL.mono hs _ _ (h2 ds q), fun ds q => RepL.mono hs _ _ (h3 ds q)⟩
theorem Cells.updz {φ : Fm} {S : Store} {H : Hp} {d : Addr} {o : HO} (c : Cells K (φ.hide d) S H) : Cells K (φ.hide d) S (upd H d o) := by
  refine ⟨c.len, c.nd, fun a z => ?_, c.zd, fun r a ha => ?_⟩
  · by_cases h : a = d
    · rw [h, upd_same]; simp
    · rw [upd_ne h]; exact c.zt a z
  · have hn : a ≠ d := fun e => c.zd r a ha (.inr e)
    obtain ⟨vs, h1, h2, h3⟩ := c.at_ r a ha
    rw [hid_updz]
    exact ⟨vs, by rw [upd_ne hn]; exact h1, h2, h3⟩
theorem wipe_slots {ρ : Env} {σ : L2.St} {P : O → V → Prop} (h : ∀ (i : Nat) (o : O), ρ[i]? = some (some o) → ∃ v, σ[i]? = some (some v) ∧ P o v) : ∀ vs : List Nat, ∀ (i : Nat) (o : O), (wipeE ρ vs)[i]? = some (some o) → ∃ v, (L2.wipe σ vs)[i]? = some (some v) ∧ P o v
  | [], i, o, e => h i o e
  | v :: vs, i, o, e => by
    simp only [wipeE] at e
    simp only [L2.wipe]
    by_cases hv : v = i
    · subst hv
      by_cases hl : v < (wipeE ρ vs).length
      · rw [List.getElem?_set_self hl] at e; cases e
      · rw [List.getElem?_eq_none (by simpa using hl)] at e; cases e
    · rw [List.getElem?_set_ne hv] at e ⊢
      exact wipe_slots h vs i o e
theorem wipeE_length (ρ : Env) : ∀ vs : List Nat, (wipeE ρ vs).length = ρ.length
  | [] => rfl
  | v :: vs => by simp only [wipeE]; rw [List.length_set, wipeE_length ρ vs]
theorem wipe_set {σ : L2.St} {x : Option V} : ∀ {vs : List Nat} {i : Nat}, i ∈ vs → L2.wipe (σ.set i x) vs = L2.wipe σ vs
  | v :: vs, i, h => by
    simp only [L2.wipe]
    by_cases hv : i ∈ vs
    · rw [wipe_set hv]
    · have : i = v := by
        rcases List.mem_cons.mp h with e | e
        · exact e
        · exact absurd e hv
      subst this
      have key : ∀ (us : List Nat) (τ : L2.St), i ∉ us → L2.wipe (τ.set i x) us = (L2.wipe τ us).set i x := by
        intro us
        induction us with
        | nil => intro τ _; rfl
        | cons u us ih =>
          intro τ hn
          simp only [L2.wipe]
          rw [ih τ (fun z => hn (List.mem_cons_of_mem _ z))]
          exact List.set_comm _ _ (fun z => hn (by rw [z]; exact List.mem_cons_self ..))
      rw [key vs σ hv, List.set_set]
/-- a target that stores into these slots alone -/
structure SGw (g : TG) (vs : List Nat) : Prop where
  run : ∀ (v : V) (σ : L2.St) (H : Hp) (Q Q' : L2.St → Hp → Prop), g v σ H Q → (∀ σ' H', L2.wipe σ' vs = L2.wipe σ vs → Q σ' H' → Q' σ' H') → g v σ H Q'
theorem sgw_name {i : Nat} {vs : List Nat} (h : i ∈ vs) : SGw (gName i) vs := ⟨fun v σ H Q Q' q k => k _ _ (wipe_set h) q⟩
theorem sgw_names {vs : List Nat} : ∀ (is : List Nat), (∀ i ∈ is, i ∈ vs) → ∀ (ws : List V) (σ : L2.St) (H : Hp) (Q Q' : L2.St → Hp → Prop), gNamesT is ws σ H Q → (∀ σ' H', L2.wipe σ' vs = L2.wipe σ vs → Q σ' H' → Q' σ' H') → gNamesT is ws σ H Q'
  | [], _, ws, σ, H, Q, Q', q, k => ⟨q.1, k _ _ rfl q.2⟩
  | i :: is, hi, ws, σ, H, Q, Q', ⟨v, r, e, q⟩, k => by
    refine ⟨v, r, e, ?_⟩
    have w := wipe_set (σ := σ) (x := some v) (hi i (List.mem_cons_self ..))
    exact sgw_names is (fun j hj => hi j (List.mem_cons_of_mem _ hj)) r _ H Q Q' q fun σ' H' e2 q2 => k σ' H' (e2.trans w) q2
theorem sgw_tup {n : Nat} {is vs : List Nat} (hi : ∀ i ∈ is, i ∈ vs) : SGw (gTup K n (gNamesT is)) vs := ⟨fun v σ H Q Q' ⟨a, xs, e, h1, h2, q⟩ k => ⟨a, xs, e, h1, h2, sgw_names is hi xs σ H Q Q' q k⟩⟩
end
section
variable {X : Cx} {W : Wy}
/-- what no exception leaves -/
def W0 : Wy := ⟨fun _ _ _ _ => False, none⟩
theorem GG.noX {α : Type} {K : PySem.W.Frag} {φ : Fm} {S : Store} {H : Hp} {σ : L2.St} {o : Out α} {R : α → Store → Prop} (h : GG K W φ S H σ R (noX o)) : GG K W0 φ S H σ R o := by
  cases o with
  | ok a S => exact h
  | exc x S => exact h.elim
  | bad => exact h
theorem comp_core {g : Gv} {tg : TG} {it : Lv} {t : Tv} {e : Ev} {own : List Nat} {σ : L2.St} {H : Hp} {Q : VK} (sg : SG X.K g tg) (gw : SGw tg own) (h : tE X.K W (eComp own g it t e) σ H Q) : tLc (tI X.K W it) tg (tT X.K W0 t) (tE X.K W0 e) own σ H Q := by
  obtain ⟨φ, ρ, S, st, g0⟩ := h
  refine ⟨φ, ρ, S, st, g0.bind.mono fun ds S1 g1 J H1 s1 hJ D hD => ?_⟩
  split at g1
  case isFalse => exact g1.elim
  rename_i hz
  -- the comprehension's own run comes to an end
  have g2 := g1.bind
  cases ec : compI g t e (wipeE ρ own) ds S1 with
  | bad => rw [ec] at g2; exact g2.elim
  | exc x S2 => rw [ec] at g2; exact g2.elim
  | ok tot Sf =>
    rw [ec] at g2
    have fin : ∀ v H', Stp X.K φ S H Sf H' → OOk X.K φ H Sf H' (.fr tot) v → Q v H' := g2
    refine ⟨fun i m H' => m = ds.length - i ∧ i ≤ ds.length ∧ ∃ (S' : Store) (accD xs : List UI.D) (acc : List V), H' D = some (.lst acc) ∧ RepL X.K (hid (φ.hide D) S' H') accD acc ∧ accD.length ≤ i ∧ GStp X.K φ S1 H1 (φ.hide D) S' H' ∧ compI g t e (wipeE ρ own) (ds.drop i) S' = .ok xs Sf ∧ accD ++ xs = tot,
      ⟨ds.length, by simp, Nat.zero_le _, S1, [], tot, [], upd_same, .nil, Nat.le_refl _, ⟨by rw [hid_updz]; exact hide_hid hD, s1.cells.hide hD, fun a h => ?_, fun a z => upd_ne fun e => s1.cells.zt a z (by rw [e]; exact hD), fun a z => .inl z, [], by simp [Fm.hide], by simp⟩, by simpa using ec, by simp⟩, ?_⟩
    · cases q : H1 a with
      | none => exact absurd q h
      | some u => rw [Sub.new hD a u q]; simp
    rintro i m H' ⟨rfl, hi, S', accD, xs, acc, hDl, racc, hacc, gs, ecI, etot⟩
    obtain ⟨hstop, hgo⟩ := hJ (φ.hide D) S' H' gs
    by_cases hlt : i < ds.length
    · obtain ⟨go, hy⟩ := hgo i hlt
      have ed : ds.drop i = ds[i] :: ds.drop (i + 1) := by simp [hlt]
      rw [ed] at ecI
      simp only [compI] at ecI
      cases e1 : g ds[i] (wipeE ρ own) with
      | none => rw [e1] at ecI; cases ecI
      | some ρ1 =>
        rw [e1] at ecI
        have ecI1 : (t ρ1 S').bind (fun k S1 => if k = true then (e ρ1 S1).bind fun o S2 => (force o S2).bind fun x S3 => (compI g t e (wipeE ρ own) (ds.drop (i + 1)) S3).bind fun xs S4 => .ok (x :: xs) S4 else compI g t e (wipeE ρ own) (ds.drop (i + 1)) S1) = .ok xs Sf := ecI
        refine .inr ⟨go, fun H'' => ∃ (S'' : Store) (accD xs : List UI.D) (acc : List V), H'' D = some (.lst acc) ∧ RepL X.K (hid (φ.hide D) S'' H'') accD acc ∧ accD.length ≤ i + 1 ∧ GStp X.K φ S1 H1 (φ.hide D) S'' H'' ∧ compI g t e (wipeE ρ own) (ds.drop (i + 1)) S'' = .ok xs Sf ∧ accD ++ xs = tot,
          fun H'' h => ⟨ds.length - (i + 1), by omega, rfl, hlt, h⟩, fun x H2 y => ?_⟩
        obtain ⟨sy, d, ed, rd⟩ := hy x H2 y
        rw [List.getElem?_eq_getElem hlt] at ed
        cases ed
        have gs2 := gs.trans sy.g
        have stw : St0 none X.K (φ.hide D) (wipeE ρ own) S' (L2.wipe σ own) H2 := by
          refine ⟨sy.cells, wipe_slots (fun j o ej => ?_) own, by rw [wipe_length, wipeE_length]; exact st.len, fun q e _ => by cases e⟩
          obtain ⟨w, h1, h2⟩ := (st.step s1).slots j o ej
          refine ⟨w, h1, ?_⟩
          cases o with
          | val d => exact Rep.mono gs2.sub _ _ h2
          | fr es => exact h2
          | ptr r => exact h2
        refine gw.run x _ H2 _ _ (sg.run none (φ.hide D) _ ρ1 S' _ H2 _ x (fun σ' H'' => H'' = H2 ∧ St0 none X.K (φ.hide D) ρ1 S' σ' H'') stw rd e1 fun σ' s' => ⟨rfl, s'⟩) fun σ3 H3 ew ⟨eH, st3⟩ => ⟨?_, ?_⟩
        · have hw : ∀ τ : L2.St, L2.wipe (L2.wipe τ own) own = L2.wipe τ own := by
            intro τ
            have key : ∀ (us : List Nat) (τ : L2.St), (∀ u ∈ us, u ∈ own) → L2.wipe (L2.wipe τ us) own = L2.wipe τ own := by
              intro us
              induction us with
              | nil => intro τ _; rfl
              | cons u us ih =>
                intro τ hu
                simp only [L2.wipe]
                rw [wipe_set (hu u (List.mem_cons_self ..))]
                exact ih τ fun w hw => hu w (List.mem_cons_of_mem _ hw)
            exact key own τ fun u hu => hu
          rw [ew, hw]
        · subst eH
          cases et : t ρ1 S' with
          | bad => rw [et] at ecI1; cases ecI1
          | exc x S2 => rw [et] at ecI1; cases ecI1
          | ok k S2 =>
            rw [et] at ecI1
            refine ⟨φ.hide D, ρ1, S', st3, ?_⟩
            rw [et]
            intro H4 s4
            have ecI' : (if k = true then (e ρ1 S2).bind fun o S2 => (force o S2).bind fun x S3 => (compI g t e (wipeE ρ own) (ds.drop (i + 1)) S3).bind fun xs S4 => .ok (x :: xs) S4 else compI g t e (wipeE ρ own) (ds.drop (i + 1)) S2) = .ok xs Sf := ecI1
            have gs4 := gs2.trans s4.g
            have hD4 : H4 D = some (.lst acc) := (s4.keep D (.inr rfl)).trans ((sy.keep D (.inr rfl)).trans hDl)
            have racc4 := RepL.mono (sy.sub.trans s4.sub) _ _ racc
            cases k with
            | false => exact ⟨S2, accD, xs, acc, hD4, racc4, by omega, gs4, ecI', etot⟩
            | true =>
              rw [if_pos rfl] at ecI'
              cases ee : e ρ1 S2 with
              | bad => rw [ee] at ecI'; cases ecI'
              | exc x S3 => rw [ee] at ecI'; cases ecI'
              | ok o S3 =>
                rw [ee] at ecI'
                refine ⟨φ.hide D, ρ1, S2, st3.step s4, ?_⟩
                rw [ee]
                intro v H5 s5 q5
                have ecJ : (force o S3).bind (fun x S3 => (compI g t e (wipeE ρ own) (ds.drop (i + 1)) S3).bind fun xs S4 => .ok (x :: xs) S4) = .ok xs Sf := ecI'
                cases ef : force o S3 with
                | bad => rw [ef] at ecJ; cases ecJ
                | exc x S4 => rw [ef] at ecJ; cases ecJ
                | ok d S4 =>
                  rw [ef] at ecJ
                  obtain ⟨s6, r6⟩ := force_ok q5.w s4.cells s5.cells ef
                  have ecK : (compI g t e (wipeE ρ own) (ds.drop (i + 1)) S4).bind (fun xs S5 => .ok (d :: xs) S5) = .ok xs Sf := ecJ
                  cases eg : compI g t e (wipeE ρ own) (ds.drop (i + 1)) S4 with
                  | bad => rw [eg] at ecK; cases ecK
                  | exc x S5 => rw [eg] at ecK; cases ecK
                  | ok ys S5 =>
                    rw [eg] at ecK
                    cases ecK
                    have s56 := s5.trans s6
                    have gs6 := gs4.trans s56.g
                    have hD6 : H5 D = some (.lst acc) := (s56.keep D (.inr rfl)).trans hD4
                    have racc6 := RepL.mono s56.sub _ _ racc4
                    refine ⟨acc, hD6, by rw [racc6.length]; omega, S4, accD ++ [d], ys, acc ++ [v], upd_same, by rw [hid_updz]; exact racc6.append (RepL.one r6), by rw [List.length_append]; simp; omega, ?_, eg, by rw [List.append_assoc]; exact etot⟩
                    refine ⟨by rw [hid_updz]; exact gs6.sub, gs6.cells.updz, fun a h => ?_, fun a z => ?_, gs6.zz, gs6.pre⟩
                    · by_cases hb : a = D
                      · rw [hb, upd_same]; simp
                      · rw [upd_ne hb]; exact gs6.ex a h
                    · have hb : a ≠ D := fun e => s1.cells.zt a z (by rw [e]; exact hD)
                      rw [upd_ne hb]
                      exact gs6.keep a z
    · have hl : i = ds.length := by omega
      subst hl
      refine .inl ⟨hstop, ?_⟩
      rw [List.drop_length] at ecI
      simp only [compI] at ecI
      cases ecI
      simp at etot
      subst etot
      have h0D : H D = none := by
        cases q : H D with
        | none => rfl
        | some u => exact absurd hD (s1.ex D (by rw [q]; simp))
      have c' := gs.cells.unhide
      refine fin _ H' ⟨(s1.sub.trans gs.sub).trans (hid_hide.trans dl_sub), c', fun a h => gs.ex a (s1.ex a h), fun a z => (gs.keep a z).trans (s1.keep a z)⟩ ⟨D, acc, rfl, h0D, hDl, RepL.mono hid_hide _ _ racc, fun r b cl ws h1 h2 h3 => ?_⟩
      obtain ⟨ws', g1, g2, g3⟩ := gs.cells.at_ r b h1
      rw [g1] at h3
      cases h3
      cases cl with
      | lst es => exact RepL.mono hid_hide _ _ (g2 es h2)
      | frz es => exact RepL.mono hid_hide _ _ (g3 es h2)
end
end UI
namespace UI
open PySem L2
/-- a call's outcome -/
def GF (K : PySem.W.Frag) (φ : Fm) (S : Store) (H : Hp) (Q : VK) (E : XK) : Out O → Prop
  | .ok o S' => ∀ v H', Stp K φ S H S' H' → OOk K φ H S' H' o v → Q v H'
  | .exc x S' => ∀ C d H', Stp K φ S H S' H' → XOk K (hid φ S' H') x C d → E C d H'
  | .bad => False
/-- the promise of a def that does as F says -/
def spF (K : PySem.W.Frag) (F : List O → Store → Out O) (many : Nat) : Sp := fun vs H Q E => vs.length = many ∧ ∃ (φ : Fm) (S : Store) (os : List O), Cells K φ S H ∧ OOkL K φ S H os vs ∧ GF K φ S H Q E (F os S)
section
variable {X : Cx} {W : Wy} {CX : CXT} {k : Nat} {f : Addr} {fd : FuncData} {ps : List Str} {x : Str} {p pos : Pos} {e : Expr} {es : List Expr} {l : Av}
theorem se_callF {F : List O → Store → Out O} {many : Nat} (Fn : FnOk X.prog X.w X.K X.mg X.base (L2.CX X.prog X.w) k f fd ps (spF X.K F many)) (hl : ∀ os S, F os S ≠ .bad → os.length = many) (hr : Room k X.A) (hg : Gl X x) (hm : X.mg x = some (.ref f)) (hk : PySem.W.keepIn X.K (.ref f) = true) (hb : Binds X.K fd ps [])
    (tk : Takes X W.w) (ha : PA X (e :: es) (tA X.K W l)) (hdb : (x == ("__debug__" : Str)) = false) (hs : ∀ y ∈ e :: es, ∀ e' p, y ≠ .Starred e' p) : PE X (.Call (.Name x p) (e :: es) [] pos) (tE X.K W fun ρ S => (l ρ S).bind fun os S1 => F os S1) := by
  refine PE.imp (pe_callS (E := WE W.w) Fn hr hg hm hk hb (fun σ => passAt tk σ) ha hdb (starEach_cons (hs e (List.mem_cons_self ..))) (plain_es (fun y hy => hs y (List.mem_cons_of_mem _ hy)) _ _)) fun σ H Q h => ?_
  obtain ⟨φ, ρ, S, st, g0⟩ := h
  refine ⟨φ, ρ, S, st, g0.bind.mono fun os S1 g1 vs H1 s1 q1 => ?_⟩
  have g2 := GG.shift s1 g1
  have hne : F os S1 ≠ .bad := fun z => by rw [z] at g2; exact g2
  refine ⟨(Paired.length q1).symm.trans (hl _ _ hne), φ, S1, os, s1.cells, q1, ?_⟩
  cases ef : F os S1 with
  | bad => exact absurd ef hne
  | ok o S2 =>
    rw [ef] at g1
    exact fun v H2 s2 q2 => g1 v H2 (s1.trans s2) (q2.back s1.ex)
  | exc xc S2 =>
    rw [ef] at g1
    exact fun C d H2 s2 q2 => g1 C d H2 (s1.trans s2) q2
end
/-- behind a def: its own cells are given up -/
theorem GStp.leave {K : PySem.W.Frag} {φ φ' : Fm} {S S' : Store} {H H' : Hp} (s : GStp K φ S H φ' S' H') (c : Cells K φ S H) : Stp K φ S H (S'.take S.length) H' ∧ Sub (hid φ' S' H') (hid φ (S'.take S.length) H') := by
  obtain ⟨ψ, e, nψ⟩ := s.pre
  have hlen : S.length ≤ S'.length := by
    rw [← c.len, ← s.cells.len, e, List.length_append]
    omega
  have at' : ∀ (r : Nat) (a : Addr), φ.as[r]? = some a → φ'.as[r]? = some a ∧ (S'.take S.length)[r]? = S'[r]? := fun r a h => by
    have hr : r < φ.as.length := (List.getElem?_eq_some_iff.mp h).1
    refine ⟨by rw [e, List.getElem?_append_left hr]; exact h, ?_⟩
    rw [List.getElem?_take_of_lt (by rw [← c.len]; exact hr)]
  have sb : Sub (hid φ' S' H') (hid φ (S'.take S.length) H') := fun a o q => by
    obtain ⟨n, q⟩ := hid_inv q
    refine hid_of (fun z => n ?_) q
    rcases z with z | ⟨r, e1, e2⟩
    · exact .inl (s.zz a z)
    · obtain ⟨h1, h2⟩ := at' r a e1
      exact .inr ⟨r, h1, by rw [← h2]; exact e2⟩
  refine ⟨⟨s.sub.trans sb, ⟨?_, c.nd, fun a z => s.cells.zt a (s.zz a z), c.zd, fun r a h => ?_⟩, s.ex, s.keep⟩, sb⟩
  · rw [List.length_take, c.len]
    omega
  · obtain ⟨h1, h2⟩ := at' r a h
    obtain ⟨vs, g1, g2, g3⟩ := s.cells.at_ r a h1
    exact ⟨vs, g1, fun ds q => RepL.mono sb _ _ (g2 ds (by rw [← h2]; exact q)), fun ds q => RepL.mono sb _ _ (g3 ds (by rw [← h2]; exact q))⟩
theorem endF_ok {K : PySem.W.Frag} {φ : Fm} {S : Store} {H : Hp} {Q : VK} {E : XK} {o : SO} (c : Cells K φ S H) (g : GF K φ S H Q E (endF S.length o)) : GS K ⟨fun C d _ H' => E C d H', none⟩ φ S H { nx := fun _ H' => Q .non H', rt := Q } o := by
  cases o with
  | nx ρ S' => exact fun φ' σ' H' s st => g .non H' (s.leave c).1 ook_non
  | brk ρ S' => exact g.elim
  | ct ρ S' => exact g.elim
  | bad => exact g.elim
  | exc x ρ S' => exact fun φ' C d σ' H' s st q => g C d H' (s.leave c).1 ⟨q.1, q.2.imp id fun ⟨da, fs, h1, h2, h3⟩ => ⟨da, fs, h1, (s.leave c).2 _ _ h2, fun f e h => let ⟨v, k1, k2⟩ := h3 f e h; ⟨v, k1, Rep.mono (s.leave c).2 _ _ k2⟩⟩⟩
  | ret o S' =>
    intro φ' v H' s q
    obtain ⟨sl, sb⟩ := s.leave c
    obtain ⟨ψ, eψ, nψ⟩ := s.pre
    cases o with
    | val d => exact g v H' sl (Rep.mono sb _ _ q)
    | fr ds =>
      obtain ⟨a, vs, rfl, h0, h1, h2, h3⟩ := q
      have hdl : Sub (dl (hid φ' S' H') a) (dl (hid φ (S'.take S.length) H') a) := fun b o e => by
        have hb : b ≠ a := fun z => by
          rw [z] at e
          unfold dl at e
          rw [if_pos rfl] at e
          cases e
        exact dl_of (sb _ _ (dl_sub _ _ e)) hb
      refine g (.ref a) H' sl ⟨a, vs, rfl, h0, h1, RepL.mono hdl _ _ h2, fun r b cl ws k1 k2 k3 => RepL.mono hdl _ _ (h3 r b cl ws ?_ ?_ k3)⟩
      · rw [eψ, List.getElem?_append_left (List.getElem?_eq_some_iff.mp k1).1]
        exact k1
      · rw [List.getElem?_take_of_lt (by rw [← c.len]; exact (List.getElem?_eq_some_iff.mp k1).1)] at k2
        exact k2
    | ptr r =>
      obtain ⟨a, rfl, ha⟩ := q
      have g0 : GF K φ S H Q E (if r < S.length then .ok (.ptr r) (S'.take S.length) else (match S'[r]? with
        | some (.lst ds) => .ok (.fr ds) (S'.take S.length)
        | some (.frz ds) => .ok (.val (.lst ds)) (S'.take S.length)
        | none => .bad)) := g
      by_cases hr : r < S.length
      · rw [if_pos hr] at g0
        refine g0 _ H' sl ⟨a, rfl, ?_⟩
        rw [eψ, List.getElem?_append_left (by rw [c.len]; exact hr)] at ha
        exact ha
      · rw [if_neg hr] at g0
        obtain ⟨vs, h1, h2, h3⟩ := s.cells.at_ r a ha
        have ham : a ∈ ψ := by
          rw [eψ, List.getElem?_append_right (by rw [c.len]; omega)] at ha
          exact List.mem_of_getElem? ha
        have hn := nψ a ham
        have na : ¬ ownA φ (S'.take S.length) a := new_notOwn c hn
        cases e : S'[r]? with
        | none => rw [e] at g0; exact g0.elim
        | some cl =>
          rw [e] at g0
          cases cl with
          | lst ds =>
            have own : ownA φ' S' a := .inr ⟨r, ha, by rw [e]; rfl⟩
            have hdl : Sub (hid φ' S' H') (dl (hid φ (S'.take S.length) H') a) := fun b o q => by
              have hb : b ≠ a := fun z => (hid_inv q).1 (by rw [z]; exact own)
              exact dl_of (sb _ _ q) hb
            refine g0 _ H' sl ⟨a, vs, rfl, hn, h1, RepL.mono hdl _ _ (h2 ds e), fun r' b cl ws k1 k2 k3 => ?_⟩
            have k1' : φ'.as[r']? = some b := by
              rw [eψ, List.getElem?_append_left (List.getElem?_eq_some_iff.mp k1).1]
              exact k1
            have k2' : S'[r']? = some cl := by
              rw [List.getElem?_take_of_lt (by rw [← c.len]; exact (List.getElem?_eq_some_iff.mp k1).1)] at k2
              exact k2
            obtain ⟨ws', j1, j2, j3⟩ := s.cells.at_ r' b k1'
            rw [j1] at k3
            cases k3
            cases cl with
            | lst es => exact RepL.mono hdl _ _ (j2 es k2')
            | frz es => exact RepL.mono hdl _ _ (j3 es k2')
          | frz ds =>
            refine g0 _ H' sl ?_
            show Rep K _ (.lst ds) (.ref a)
            simp only [Rep]
            exact ⟨a, vs, rfl, hid_of na h1, RepL.mono sb _ _ (h3 ds e)⟩
theorem start_ok {K : PySem.W.Frag} {φ : Fm} {S : Store} {H : Hp} {os : List O} {vs : List V} {N : List Str} (c : Cells K φ S H) (h : OOkL K φ S H os vs) : St0 none K φ (os.map some ++ List.replicate (N.length - os.length) none) S (L2.start N vs) H := by
  have hl : os.length = vs.length := Paired.length h
  refine ⟨c, fun i o e => ?_, by unfold L2.start; simp [hl], fun q e _ => by cases e⟩
  have key : ∀ {os : List O} {vs : List V}, OOkL K φ S H os vs → ∀ (i : Nat) (o : O), os[i]? = some o → ∃ v, vs[i]? = some v ∧ SlOk K φ S H o v := by
    intro os vs h
    induction h with
    | nil => intro i o e; simp at e
    | cons a b ih =>
      intro i o e
      cases i with
      | zero => simp at e; subst e; exact ⟨_, rfl, a⟩
      | succ i => exact ih i o (by simpa using e)
  by_cases hi : i < os.length
  · rw [List.getElem?_append_left (by simpa using hi), List.getElem?_map] at e
    cases q : os[i]? with
    | none => rw [q] at e; cases e
    | some o' =>
      rw [q] at e
      cases e
      obtain ⟨v, h1, h2⟩ := key h i _ q
      refine ⟨v, ?_, h2⟩
      unfold L2.start
      rw [List.getElem?_append_left (by simp; omega), List.getElem?_map, h1]
      rfl
  · rw [List.getElem?_append_right (by simpa using hi), List.getElem?_replicate] at e
    split at e <;> cases e
/-- THE RULE of a def -/
theorem fn_ok {P : Program} {w : World} {K : PySem.W.Frag} {mg : Str → Option Value} {base : Heap} {nm qual : Str} {params : Arguments} {body : List Stmt} {scope : Scope} {dvs : List V} {kws : List (Str × V)} {f : Addr} {fd : FuncData} {N ps : List Str} {k : Nat} {F : List O → Store → Out O} {c : Sv}
    (Fd : FunD K nm qual params body scope dvs kws f fd) (Sc : FnScope N ps scope) (hF : ∀ os S, F os S ≠ .bad → os.length = ps.length ∧ F os S = runF N.length c os S)
    (hb : ∀ (cdv : Value) (A : Around) (outer : List PySem.Env) (s : Shared) (H : Hp) (E : XK), Room k (A.deeper (PyProof.Rows.envOfC qual scope s.heap.objs.size f cdv)) → PSs (cxOf (L2.CX P w) P w K mg base N qual scope f cdv A outer s H E) body (tS K ⟨fun C d _ H' => E C d H', none⟩ c)) :
    FnOk P w K mg base (L2.CX P w) (k + 1) f fd ps (spF K F ps.length) := by
  refine Fd.ok Sc (fun vs H Q E h => h.1) fun cdv A outer s H vs Q E hr h => ?_
  obtain ⟨hl, φ, S, os, c1, h1, g⟩ := h
  refine ⟨_, hb cdv A outer s H E hr, φ, _, S, start_ok c1 h1, ?_⟩
  have hne : F os S ≠ .bad := fun z => by rw [z] at g; exact g
  obtain ⟨_, e⟩ := hF os S hne
  rw [e] at g
  exact endF_ok c1 g
end UI
namespace UI
open PySem L2
section
variable {X : Cx} {W : Wy} {x n : Str} {np pos pos' p : Pos}
/-- X(), X an own exception class without own __init__ -/
theorem pmk_own0 {C : Addr} {bmB : List Value} {B newId initId : String} (F : ExcBaseFacts B newId initId bmB) (q : PySem.W.excIn X.K C bmB newId = true) (gC : X.mg x = some (.ref C))
    (kC : PySem.W.keepIn X.K (.ref C) = true) (r : Raises X (.ref C)) (hg : Gl X x) (hdb : (x == ("__debug__" : Str)) = false) :
    PMk X (.Call (.Name x p) [] [] pos) (fun _ H Q => Q (.ref C) none H) := by
  intro pins s σ H Q I h
  refine wpAny_Call_Name_kw (ld_glob I hg gC ?_ hdb)
  refine PySem.W.callWith_K0 I.kIn kC ?_
  show wpAny _ _ (call (.ref C) []) _ _ _
  obtain ⟨bm, N, nm, qn, bs, hdct, sn, sub, ab, col, dd, k0, k1, k2, k3, k5, mN, hC, hN, hni, T⟩ := exc_obj I.kIn q
  refine wpAny_call_exc_subT F T hC hN hni (fun h' e hm => ?_) (Nat.zero_le _)
  exact mk_of I hm r h (I.hok.gone hm.new)
theorem ss_raise0 (q : PySem.W.excIn X.K (He.ga X.K x) He.veBase "ValueError.__new__" = true) (gC : X.mg x = some (.ref (He.ga X.K x))) (kC : PySem.W.keepIn X.K (.ref (He.ga X.K x)) = true) (r : Raises X (.ref (He.ga X.K x))) (hg : Gl X x) (hdb : (x == ("__debug__" : Str)) = false)
    (hc : X.calm = true) (tk : Takes X W.w) : PS X (.Raise (some (.Call (.Name x p) [] [] pos)) none pos') (tS X.K W (sRaise x [] lNil)) := by
  refine PS.imp (ps_raise hc tk (pmk_own0 PySem.F.excBase_ValueError q gC kC r hg hdb)) fun D σ H h => ?_
  obtain ⟨φ, ρ, S, st, g⟩ := h
  exact g φ _ none σ H (.refl st.cells) st ⟨rfl, .inl rfl⟩

/-! ### try -/
/-- the suite's outcome, in its own terms -/
theorem GS.suite {K : PySem.W.Frag} {φ : Fm} {S : Store} {H : Hp} {D : Ends} {o : SO} {ξ : Option Hx} (h : GS K W φ S H D (noXS o)) (hW : ∀ φ ρ S σ H, St0 ξ K φ ρ S σ H → W.x = none → St0 none K φ ρ S σ H) (hx : W.x = none) : GS K ⟨fun _ _ _ _ => False, ξ⟩ φ S H D o := by
  cases o with
  | nx ρ' S' => exact fun φ' σ' H' s st => h φ' σ' H' s (by have := hW _ _ _ _ _ st hx; rw [hx]; exact this)
  | brk ρ' S' => exact fun φ' σ' H' s st => h φ' σ' H' s (by have := hW _ _ _ _ _ st hx; rw [hx]; exact this)
  | ct ρ' S' => exact fun φ' σ' H' s st => h φ' σ' H' s (by have := hW _ _ _ _ _ st hx; rw [hx]; exact this)
  | ret o S' => exact h
  | exc x ρ' S' => exact h.elim
  | bad => exact h
theorem St0.drop {ξ : Option Hx} {K : PySem.W.Frag} {φ : Fm} {ρ : Env} {S : Store} {σ : L2.St} {H : Hp} (st : St0 ξ K φ ρ S σ H) : St0 none K φ ρ S σ H := ⟨st.cells, st.slots, st.len, fun q e _ => by cases e⟩
theorem St0.unset {ξ : Option Hx} {K : PySem.W.Frag} {φ : Fm} {ρ : Env} {S : Store} {σ : L2.St} {H : Hp} {i : Nat} {o : Option V} (st : St0 ξ K φ ρ S σ H) : St0 none K φ (ρ.set i none) S (σ.set i o) H := by
  refine ⟨st.cells, fun j o' e => ?_, by rw [List.length_set, List.length_set]; exact st.len, fun q e _ => by cases e⟩
  by_cases hj : i = j
  · subst hj
    by_cases hl : i < ρ.length
    · rw [List.getElem?_set_self hl] at e; cases e
    · rw [List.getElem?_eq_none (by rw [List.length_set]; omega)] at e; cases e
  · rw [List.getElem?_set_ne hj] at e ⊢
    exact st.slots j o' e
theorem GS.suiteAs {K : PySem.W.Frag} {φ : Fm} {S : Store} {H : Hp} {D : Ends} {o : SO} {ξ : Option Hx} {i : Nat} (h : GS K W φ S H D (unsetS i (noXS o))) (hx : W.x = none) :
    GS K ⟨fun _ _ _ _ => False, ξ⟩ φ S H { nx := fun σ' H' => D.nx (σ'.set i none) H', rt := D.rt, bk := fun σ' H' => D.bk (σ'.set i none) H', ct := fun σ' H' => D.ct (σ'.set i none) H' } o := by
  cases o with
  | nx ρ' S' => exact fun φ' σ' H' s st => h φ' _ H' s (by rw [hx]; exact st.unset)
  | brk ρ' S' => exact fun φ' σ' H' s st => h φ' _ H' s (by rw [hx]; exact st.unset)
  | ct ρ' S' => exact fun φ' σ' H' s st => h φ' _ H' s (by rw [hx]; exact st.unset)
  | ret o S' => exact h
  | exc x ρ' S' => exact h.elim
  | bad => exact h
/-- a suite's reading: some exception of this kind is handled -/
def tSu (K : PySem.W.Frag) (i : Nat) (suite : Xc → Sv) (a : Addr) (C : Value) (d : Option Addr) : TS := fun D σ H => ∃ x : Xc, C = .ref (He.ga K x.cls) ∧ tS K ⟨fun _ _ _ _ => False, some ⟨i, a, x, C, d⟩⟩ (suite x) D σ H
theorem su_ok {X : Cx} {K : PySem.W.Frag} {i : Nat} {suite : Xc → Sv} {a : Addr} {C : Value} {d : Option Addr} {ss : List Stmt} (h : ∀ x : Xc, C = .ref (He.ga K x.cls) → PSs X ss (tS K ⟨fun _ _ _ _ => False, some ⟨i, a, x, C, d⟩⟩ (suite x))) : PSs X ss (tSu K i suite a C d) :=
  ⟨fun pins s σ H D I ⟨x, e, q⟩ => (h x e).run pins s σ H D I q⟩
/-- which clause an exception meets -/
def Meets (K : PySem.W.Frag) (m : Str → Option Bool) (c : Value) : Prop := ∀ (x : Str) (b : Bool), m x = some b → PySem.W.exmOne K (.ref (He.ga K x)) c = some b
theorem ss_tryAs {b₀ : Stmt} {body ss : List Stmt} {i : Nat} {m : Str → Option Bool} {cb : Sv} {suite : Xc → Sv} {c : Value} (hs : X.stack = X.env :: X.outer) (hf : X.env.frame = some X.env.locals) (hN : X.N.Nodup) (hi : X.N[i]? = some n) (hln : X.env.kindOf n = some .local) (hc : Names X x c) (tk : Takes X W.w) (hx : W.x = none) (hm : Meets X.K m c)
    (hb : ∀ (w : WX) (pn : List (Addr × Obj)) (xe : Value → Shared → Prop), Takes (X.tr pn xe) w → PassesOwn (model X.prog X.w) X.A X.env xe → PSs (X.tr pn xe) body (tS X.K ⟨w, none⟩ cb))
    (hsu : ∀ (a : Addr) (oe : Obj) (cls : Value) (d : Option Addr) (pn : List (Addr × Obj)), Zc cls d oe → (∃ vs, oe.data = .fields vs) → ∀ xc : Xc, cls = .ref (He.ga X.K xc.cls) → PSs (X.suite a ((a, oe) :: pn)) (b₀ :: ss) (tS X.K ⟨fun _ _ _ _ => False, some ⟨i, a, xc, cls, d⟩⟩ (suite xc))) :
    PS X (.Try body [.ExceptHandler (some (.Name x np)) (some n) (b₀ :: ss) pos'] [] [] pos) (tS X.K W (sTryAs m i cb suite)) := by
  refine PS.imp (ps_try_as hs hf hN hi hln hc tk (tb := fun w => tS X.K ⟨w, none⟩ cb) (ts := tSu X.K i suite) hb (fun a oe cls d pn hz hv => su_ok fun xc e => hsu a oe cls d pn hz hv xc e)) fun D σ H h => ?_
  obtain ⟨φ, ρ, S, st, g⟩ := h
  refine ⟨φ, ρ, S, st.drop, ?_⟩
  unfold sTryAs at g
  cases e : cb ρ S with
  | nx ρ1 S1 => rw [e] at g; exact fun φ' σ' H' s st' => g φ' σ' H' s (by rw [hx]; exact st')
  | brk ρ1 S1 => rw [e] at g; exact fun φ' σ' H' s st' => g φ' σ' H' s (by rw [hx]; exact st')
  | ct ρ1 S1 => rw [e] at g; exact fun φ' σ' H' s st' => g φ' σ' H' s (by rw [hx]; exact st')
  | ret o S1 => rw [e] at g; exact g
  | bad => rw [e] at g; exact g.elim
  | exc xc ρ1 S1 =>
    rw [e] at g
    intro φ' C d σ' H' s st' q
    have g1 : GS X.K W φ S H D (match m xc.cls with
      | some true => unsetS i (noXS (suite xc (ρ1.set i none) S1))
      | some false => .exc xc ρ1 S1
      | none => .bad) := g
    cases em : m xc.cls with
    | none => rw [em] at g1; exact g1.elim
    | some b =>
      rw [em] at g1
      obtain ⟨rfl, hq⟩ := id q
      refine ⟨b, hm _ _ em, fun eb a ha => ?_, fun eb => ?_⟩
      · subst eb
        refine ⟨xc, rfl, φ', ρ1.set i none, S1, ⟨st'.cells, fun j o e' => ?_, by rw [List.length_set, List.length_set]; exact st'.len, fun q' e1 e2 => ?_⟩, GS.suiteAs (GS.shift s g1) hx⟩
        · by_cases hj : i = j
          · subst hj
            by_cases hl : i < ρ1.length
            · rw [List.getElem?_set_self hl] at e'; cases e'
            · rw [List.getElem?_eq_none (by rw [List.length_set]; omega)] at e'; cases e'
          · rw [List.getElem?_set_ne hj] at e' ⊢
            exact st'.slots j o e'
        · cases e1
          by_cases hl : i < ρ1.length
          · exact ⟨List.getElem?_set_self (by rw [st'.len]; exact hl), q⟩
          · have e2' : (ρ1.set i none)[i]? = some none := e2
            rw [List.getElem?_eq_none (by rw [List.length_set]; omega)] at e2'; cases e2'
      · subst eb
        exact g1 φ' _ d σ' H' s (by rw [hx]; exact st') q
theorem ss_try {b₀ : Stmt} {body ss : List Stmt} {m : Str → Option Bool} {cb : Sv} {suite : Xc → Sv} {c : Value} (hs : X.stack = X.env :: X.outer) (hf : X.env.frame = some X.env.locals) (hc : Names X x c) (tk : Takes X W.w) (hx : W.x = none) (hm : Meets X.K m c)
    (hb : ∀ (w : WX) (pn : List (Addr × Obj)) (xe : Value → Shared → Prop), Takes (X.tr pn xe) w → PassesOwn (model X.prog X.w) X.A X.env xe → PSs (X.tr pn xe) body (tS X.K ⟨w, none⟩ cb))
    (hsu : ∀ (a : Addr) (oe : Obj) (pn : List (Addr × Obj)) (xc : Xc), PSs (X.suite a ((a, oe) :: pn)) (b₀ :: ss) (tS X.K ⟨fun _ _ _ _ => False, none⟩ (suite xc))) :
    PS X (.Try body [.ExceptHandler (some (.Name x np)) none (b₀ :: ss) pos'] [] [] pos) (tS X.K W (sTry m cb suite)) := by
  refine PS.imp (ps_try_only hs hf hc tk (tb := fun w => tS X.K ⟨w, none⟩ cb) (ts := fun _ cls _ D σ H => ∃ x : Xc, tS X.K ⟨fun _ _ _ _ => False, none⟩ (suite x) D σ H) hb (fun a oe cls d pn _ _ => ⟨fun pins s σ H D I ⟨x, q⟩ => (hsu a oe pn x).run pins s σ H D I q⟩)) fun D σ H h => ?_
  obtain ⟨φ, ρ, S, st, g⟩ := h
  refine ⟨φ, ρ, S, st.drop, ?_⟩
  unfold sTry at g
  cases e : cb ρ S with
  | nx ρ1 S1 => rw [e] at g; exact fun φ' σ' H' s st' => g φ' σ' H' s (by rw [hx]; exact st')
  | brk ρ1 S1 => rw [e] at g; exact fun φ' σ' H' s st' => g φ' σ' H' s (by rw [hx]; exact st')
  | ct ρ1 S1 => rw [e] at g; exact fun φ' σ' H' s st' => g φ' σ' H' s (by rw [hx]; exact st')
  | ret o S1 => rw [e] at g; exact g
  | bad => rw [e] at g; exact g.elim
  | exc xc ρ1 S1 =>
    rw [e] at g
    intro φ' C d σ' H' s st' q
    have g1 : GS X.K W φ S H D (match m xc.cls with
      | some true => noXS (suite xc ρ1 S1)
      | some false => .exc xc ρ1 S1
      | none => .bad) := g
    cases em : m xc.cls with
    | none => rw [em] at g1; exact g1.elim
    | some b =>
      rw [em] at g1
      obtain ⟨rfl, hq⟩ := id q
      refine ⟨b, hm _ _ em, fun eb a ha => ?_, fun eb => ?_⟩
      · subst eb
        exact ⟨xc, φ', ρ1, S1, st', GS.suite (ξ := none) (GS.shift s g1) (fun _ _ _ _ _ st _ => st) hx⟩
      · subst eb
        exact g1 φ' _ d σ' H' s (by rw [hx]; exact st') q
/-- e.f in a suite -/
theorem se_xf {a : Addr} {oe : Obj} {cls : Value} {d : Option Addr} {pn : List (Addr × Obj)} {i : Nat} {xc : Xc} {f : Str} (T : XfC X.K (He.ga X.K xc.cls)) (hno : PySem.W.findIn X.K (.ref (He.ga X.K xc.cls)) f = some none) (hz : Zc cls d oe) (hv : ∃ vs, oe.data = .fields vs)
    (hi : X.N[i]? = some n) (hvis : Vis X.env.scope n) (hd : (n == ("__debug__" : Str)) = false) (hcd : (n == ("__classdict__" : Str)) = false) :
    PE (X.suite a ((a, oe) :: pn)) (.Attribute (.Name n p) f pos) (tE X.K ⟨fun _ _ _ _ => False, some ⟨i, a, xc, cls, d⟩⟩ (eXf i xc f)) := by
  refine PE.imp (pe_xf T hno hz hv (pe_var (X := X.suite a ((a, oe) :: pn)) hi hvis hd hcd) rfl) fun σ H Q h => ?_
  obtain ⟨φ, ρ, S, st, g⟩ := h
  unfold eXf at g
  split at g
  · rename_i e
    obtain ⟨h1, h2⟩ := st.xi _ rfl e
    obtain ⟨r, e1, g1⟩ := g.of
    simp only [Option.map_eq_some_iff] at e1
    obtain ⟨dv, e1, rfl⟩ := e1
    obtain ⟨hC, h3⟩ := h2
    rcases h3 with h3 | ⟨da, fs, h4, h5, h6⟩
    · rw [h3] at e1; cases e1
    · obtain ⟨v, h7, h8⟩ := h6 f dv e1
      exact ⟨_, h1, rfl, hC, da, fs, v, h4, hid_sub _ _ h5, h7, g1 v H (.refl st.cells) h8⟩
  · exact g.elim
end
end UI
namespace UI
open PySem L2
/-! ### rules with their plain side conditions -/
/-- what is known of a function of the module -/
def FnI (P : Program) (w : World) (K : PySem.W.Frag) (mg : Str → Option Value) (base : Heap) (k : Nat) (x : Str) (F : List O → Store → Out O) (n : Nat) : Prop := ∃ (f : Addr) (fd : FuncData) (ps : List Str), FnOk P w K mg base (L2.CX P w) k f fd ps (spF K F n) ∧ mg x = some (.ref f) ∧ PySem.W.keepIn K (.ref f) = true ∧ Binds K fd ps [] ∧ ∀ os S, F os S ≠ .bad → os.length = n
theorem FnI.mono {P : Program} {w : World} {K : PySem.W.Frag} {mg : Str → Option Value} {base : Heap} {j k : Nat} {x : Str} {F : List O → Store → Out O} {n : Nat} (h : FnI P w K mg base j x F n) (l : j ≤ k) : FnI P w K mg base k x F n := by
  obtain ⟨f, fd, ps, Fn, r⟩ := h
  exact ⟨f, fd, ps, Fn.mono l, r⟩
/-- a def's outcome: the number of its parameters, of its names -/
def mkF (n m : Nat) (c : Sv) (os : List O) (S : Store) : Out O := if os.length = n then runF m c os S else .bad
theorem mkF_ok {n m : Nat} {c : Sv} (os : List O) (S : Store) (h : mkF n m c os S ≠ .bad) : os.length = n ∧ mkF n m c os S = runF m c os S := by
  unfold mkF at h ⊢
  split
  · rename_i e
    exact ⟨e, rfl⟩
  · rename_i e
    rw [if_neg e] at h
    exact absurd rfl h
theorem hu_of {k : Nat} {A : Around} (r : Room k A) : A.units + 65 < cLine := by have := r.un; omega
section
variable {P : Program} {w : World} {K : PySem.W.Frag} {mg : Str → Option Value} {base : Heap} {N : List Str} {qual : Str} {scope : Scope} {f : Addr} {cdv : Value} {A : Around} {outer : List PySem.Env} {s : Shared} {H : Hp} {E : XK}
theorem tk_top : Takes (cxOf (L2.CX P w) P w K mg base N qual scope f cdv A outer s H E) (Wy.w ⟨fun C d _ H' => E C d H', none⟩) := takes_of rfl rfl rfl rfl
theorem hp_top : PassesOwn (model P w) (cxOf (L2.CX P w) P w K mg base N qual scope f cdv A outer s H E).A (cxOf (L2.CX P w) P w K mg base N qual scope f cdv A outer s H E).env (cxOf (L2.CX P w) P w K mg base N qual scope f cdv A outer s H E).xe := passes_of (X := cxOf (L2.CX P w) P w K mg base N qual scope f cdv A outer s H E) rfl
end
theorem tk_W0 {X : Cx} : Takes X W0.w := fun _ _ x => by
  obtain ⟨_, _, _, _, _, _, _, _, _, _, _, _, _, _, _, _, z⟩ := x
  exact z.elim
def noStar : Expr → Bool
  | .Starred _ _ => false
  | _ => true
theorem noStar_ok {e : Expr} (h : noStar e = true) : ∀ e' p, e ≠ .Starred e' p := fun e' p q => by rw [q] at h; cases h
def noStars : List Expr → Bool
  | [] => true
  | e :: es => noStar e && noStars es
theorem noStars_ok : ∀ {es : List Expr}, noStars es = true → ∀ y ∈ es, ∀ e' p, y ≠ .Starred e' p
  | [], _, y, hy => absurd hy (by simp)
  | e :: es, h, y, hy => by
    have h : (noStar e && noStars es) = true := h
    rw [Bool.and_eq_true] at h
    rcases List.mem_cons.mp hy with z | z
    · rw [z]; exact noStar_ok h.1
    · exact noStars_ok h.2 y z
section
variable {X : Cx} {W : Wy} {x : Str} {p pos pos' p1 p2 : Pos} {a b c e : Expr} {es : List Expr} {ca cb cc ce : Ev}
theorem wSlot (i : Nat) (hN : X.N[i]? = some x := by rfl) (hv : Vis X.env.scope x := by first | exact Or.inl rfl | exact Or.inr (Or.inl rfl) | exact Or.inr (Or.inr rfl)) (hd : (x == ("__debug__" : Str)) = false := by decide) (hcd : (x == ("__classdict__" : Str)) = false := by decide) : PE X (.Name x pos) (tE X.K W (eSlot i)) := se_slot hN hv hd hcd
theorem wInt {n : Int} {j : Nat} : PE X (.Constant (.int n) j pos) (tE X.K W (eC (.int n))) := se_C pe_int fun _ => by simp only [Rep]
theorem wBl {n : Bool} {j : Nat} : PE X (.Constant (.bool n) j pos) (tE X.K W (eC (.bl n))) := se_C pe_bl fun _ => by simp only [Rep]
theorem wNon {j : Nat} : PE X (.Constant .none j pos) (tE X.K W (eC .non)) := se_C pe_non fun _ => by simp only [Rep]
theorem wStr {n : Str} {j : Nat} : PE X (.Constant (.str n) j pos) (tE X.K W (eC (.str n))) := se_C pe_str fun _ => by simp only [Rep]
theorem wTy (n : String) (hm : X.mg x = none) (hg : Gl X x := by rfl) (hv : bootBuiltins x = some (.type n) := by rfl) (hn : x ≠ "__name__" := by decide) (hd : (x == ("__debug__" : Str)) = false := by decide) : PE X (.Name x pos) (tE X.K W (eC (.ty n))) := se_C (pe_bltn (v := .ty n) hg hm hv rfl hn hd) fun _ => by simp only [Rep]
theorem wGI {n : Int} (hm : ∃ t, X.mg x = some (.int n t)) (hg : Gl X x := by rfl) (hd : (x == ("__debug__" : Str)) = false := by decide) : PE X (.Name x pos) (tE X.K W (eC (.int n))) := by
  obtain ⟨t, hm⟩ := hm
  exact se_C (pe_glob (v := .int n) hg hm ⟨t, rfl⟩ hd) fun _ => by simp only [Rep]
theorem wGS {n : Str} (hm : ∃ t, X.mg x = some (.str n t)) (hg : Gl X x := by rfl) (hd : (x == ("__debug__" : Str)) = false := by decide) : PE X (.Name x pos) (tE X.K W (eC (.str n))) := by
  obtain ⟨t, hm⟩ := hm
  exact se_C (pe_glob (v := .str n) hg hm ⟨t, rfl⟩ hd) fun _ => by simp only [Rep]
theorem wGD {d : D} {A : Addr} (hm : X.mg x = some (.ref A)) (hr : ∀ H, Rep X.K H d (.ref A)) (hg : Gl X x := by rfl) (hd : (x == ("__debug__" : Str)) = false := by decide) : PE X (.Name x pos) (tE X.K W (eC d)) := se_C (pe_glob (v := .ref A) hg hm rfl hd) hr
theorem wCmp {op : CmpOp} (hu : X.A.units + 65 < cLine) (ha : PE X a (tE X.K W ca)) (hb : PE X b (tE X.K W cb)) (hm : behindInMarks op b = false := by rfl) : PE X (.Compare a [op] [b] pos) (tE X.K W (eB (tCmp op ca cb))) := se_cmp hu ha hb hm
theorem wCmp2 {op op' : CmpOp} (hu : X.A.units + 65 < cLine) (ha : PE X a (tE X.K W ca)) (hb : PE X b (tE X.K W cb)) (hc : PE X c (tE X.K W cc)) (hm : lastMarks [op, op'] [b, c] = false := by rfl) : PE X (.Compare a [op, op'] [b, c] pos) (tE X.K W (eB (tCmp2 op op' ca cb cc))) := se_cmp2 hu ha hb hc hm
theorem vCmp {op : CmpOp} (hu : X.A.units + 65 < cLine) (ha : PE X a (tE X.K W ca)) (hb : PE X b (tE X.K W cb)) (hm : behindInMarks op b = false := by rfl) : PT X (.Compare a [op] [b] pos) (tT X.K W (tCmp op ca cb)) := st_cmp hu ha hb hm
theorem vCmp2 {op op' : CmpOp} (hu : X.A.units + 65 < cLine) (ha : PE X a (tE X.K W ca)) (hb : PE X b (tE X.K W cb)) (hc : PE X c (tE X.K W cc)) (hm : lastMarks [op, op'] [b, c] = false := by rfl) : PT X (.Compare a [op, op'] [b, c] pos) (tT X.K W (tCmp2 op op' ca cb cc)) := st_cmp2 hu ha hb hc hm
theorem vVal (ha : PE X a (tE X.K W ca)) (he : ∀ whole, isTrue a X.env whole = (do let v ← whole; standAt a.pos; holding [v] (truthy v)) := by intro _; rfl) : PT X a (tT X.K W (tVal ca)) := st_val ha he
theorem vAnd {ta tb : Tv} (ha : PT X a (tT X.K W ta)) (hb : PW X (.BoolOp .And (b :: es) pos) (tT X.K W tb)) : PW X (.BoolOp .And (a :: b :: es) pos) (tT X.K W (tAnd ta tb)) := st_and ha hb
theorem lNilP : PA X [] (tL X.K W lNil) := sl_nil
theorem wL {cl : Lv} (ha : PE X a (tE X.K W ca)) (hl : PA X es (tL X.K W cl)) (hs : noStar a = true := by rfl) : PA X (a :: es) (tL X.K W (lCons ca cl)) := sl_cons ha hl (noStar_ok hs)
theorem wA {cl : Av} (ha : PE X a (tE X.K W ca)) (hl : PA X es (tA X.K W cl)) (hs : noStar a = true := by rfl) : PA X (a :: es) (tA X.K W (aCons ca cl)) := sa_cons ha hl (noStar_ok hs)
theorem wIx (ha : PE X a (tE X.K W ca)) (hb : PE X b (tE X.K W cb)) (hs : PlainIx b := by intro _ _; rfl) : PE X (.Subscript a b pos) (tE X.K W (eIx ca cb)) := se_ix ha hb hs
theorem wCallB {id : String} {g : List D → Option O} {l : Av} (hc : CallR X (.builtin id) (rBlt X.K g)) (hm : X.mg x = none) (ha : PA X (e :: es) (tA X.K W l)) (hg : Gl X x := by rfl) (hv : bootBuiltins x = some (.builtin id) := by rfl)
    (hn : x ≠ "__name__" := by decide) (hdb : (x == ("__debug__" : Str)) = false := by decide) (hs : noStars (e :: es) = true := by rfl) : PE X (.Call (.Name x p) (e :: es) [] pos) (tE X.K W (eCallB g l)) := se_callB hc hg hm hv ha hn hdb (noStars_ok hs)
theorem wCallTy {T : String} {g : List D → Option O} {l : Av} (hc : CallR X (.type T) (rBlt X.K g)) (hm : X.mg x = none) (ha : PA X (e :: es) (tA X.K W l)) (hg : Gl X x := by rfl) (hv : bootBuiltins x = some (.type T) := by rfl)
    (hn : x ≠ "__name__" := by decide) (hdb : (x == ("__debug__" : Str)) = false := by decide) (hs : noStars (e :: es) = true := by rfl) : PE X (.Call (.Name x p) (e :: es) [] pos) (tE X.K W (eCallB g l)) := se_callTy hc hg hm hv ha hn hdb (noStars_ok hs)
/-- a def called -/
def eCall (F : List O → Store → Out O) (l : Av) : Ev := fun ρ S => (l ρ S).bind fun os S1 => F os S1
theorem wCall {k n : Nat} {F : List O → Store → Out O} {l : Av} (h : FnI X.prog X.w X.K X.mg X.base k x F n) (hr : Room k X.A) (tk : Takes X W.w) (ha : PA X (e :: es) (tA X.K W l)) (hg : Gl X x := by rfl) (hdb : (x == ("__debug__" : Str)) = false := by decide) (hs : noStars (e :: es) = true := by rfl) : PE X (.Call (.Name x p) (e :: es) [] pos) (tE X.K W (eCall F l)) := by
  obtain ⟨f, fd, ps, Fn, hm, hk, hb, hl⟩ := h
  exact se_callF Fn hl hr hg hm hk hb tk ha hdb (noStars_ok hs)
/-! statements -/
theorem wSet (i : Nat) (hN : X.N.Nodup) (he : PE X e (tE X.K W ce)) (hi : X.N[i]? = some x := by rfl) (hx : Loc X.env.scope x := by first | exact Or.inl rfl | exact Or.inr rfl) (hs : swapsWith e (some (.Name x pos')) pos.line X.env = pure false := by rfl) (hf : X.fn x = true ∨ X.env.scope.names.lookup x = some .local := by first | exact Or.inl rfl | exact Or.inr rfl) : PS X (.Assign [.Name x pos'] e pos) (tS X.K W (sSet i ce)) := ss_set hN hi hx he hs hf
theorem wSetM (i : Nat) (hN : X.N.Nodup) (he : PE X e (tE X.K W ce)) (hi : X.N[i]? = some x := by rfl) (hx : Loc X.env.scope x := by first | exact Or.inl rfl | exact Or.inr rfl) (hs : swapsWith e (some (.Name x pos')) pos.line X.env = pure false := by rfl) (hf : X.fn x = true ∨ X.env.scope.names.lookup x = some .local := by first | exact Or.inl rfl | exact Or.inr rfl) : PS X (.Assign [.Name x pos'] e pos) (tS X.K W (sSetM i ce)) := ss_setM hN hi hx he hs hf
theorem wDrop (he : PE X e (tE X.K W ce)) (hs : swapsWith e none pos.line X.env = pure false := by rfl) : PS X (.Expr e pos) (tS X.K W (sDrop ce)) := ss_drop he hs
theorem wApp (i : Nat) {cpos : Pos} (he : PE X e (tE X.K W ce)) (hN : X.N[i]? = some x := by rfl) (hv : Vis X.env.scope x := by first | exact Or.inl rfl | exact Or.inr (Or.inl rfl) | exact Or.inr (Or.inr rfl)) (hd : (x == ("__debug__" : Str)) = false := by decide) (hcd : (x == ("__classdict__" : Str)) = false := by decide) (hline : (p2.endLine == cpos.line) = true := by rfl) (hs : noStar e = true := by rfl) :
    PS X (.Expr (.Call (.Attribute (.Name x p1) "append" p2) [e] [] cpos) pos) (tS X.K W (sApp i ce)) := ss_app hN hv hd hcd hline he (noStar_ok hs)
theorem wSetIx (i : Nat) (ha : PE X a (tE X.K W ca)) (he : PE X e (tE X.K W ce)) (hN : X.N[i]? = some x := by rfl) (hv : Vis X.env.scope x := by first | exact Or.inl rfl | exact Or.inr (Or.inl rfl) | exact Or.inr (Or.inr rfl)) (hd : (x == ("__debug__" : Str)) = false := by decide) (hcd : (x == ("__classdict__" : Str)) = false := by decide)
    (hs : swapsWithSole [.Subscript (.Name x p1) a p2] e pos.line X.env = pure false := by rfl) (hw : swappedStores [.Subscript (.Name x p1) a p2] e X.env = pure none := by rfl) (h1 : (assignEach [.Subscript (.Name x p1) a p2] X.env).map (·.2) = [assign (.Subscript (.Name x p1) a p2) X.env] := by rfl)
    (ha' : ∀ v, assign (.Subscript (.Name x p1) a p2) X.env v = (do
      let ov ← holding [v] (eval (.Name x p1) X.env)
      let iv ← holding [v, ov] (eval a X.env)
      standAt p2
      holding [v, ov, iv] (setItem ov iv v)
      release [v, ov, iv] []) := by intro _; rfl) : PS X (.Assign [.Subscript (.Name x p1) a p2] e pos) (tS X.K W (sSetIx i ca ce)) :=
  ss_setIx hN hv hd hcd ha he (ps_asg he (pg_sub (pe_var hN hv hd hcd) ha set_list ha') hs hw h1)
theorem wFor {tg iter : Expr} {body : List Stmt} {g : Gv} {t : TG} {it : Lv} {d : Sv} (hp : PassesOwn (model X.prog X.w) X.A X.env X.xe) (hc : X.calm = true) (hi : PI X tg iter (tI X.K W it)) (hg : PG X tg t) (sg : SG X.K g t) (hb : PSs X body (tS X.K W d)) (hs : ∀ x, foldedSetIterable iter X.env x = pure x := by intro _; rfl) :
    PS X (.For tg iter body [] pos) (tS X.K W (sFor g it d)) := ss_for hp hc hi hg sg hb hs
theorem wGn (i : Nat) (hN : X.N.Nodup) (hi : X.N[i]? = some x := by rfl) (hx : Loc X.env.scope x := by first | exact Or.inl rfl | exact Or.inr rfl) (hf : X.fn x = true ∨ X.env.scope.names.lookup x = some .local := by first | exact Or.inl rfl | exact Or.inr rfl) : PG X (.Name x pos) (gName i) := pg_name hN hi hx hf
theorem wRng1 {tg : Expr} (hm : X.mg "range" = none) (ha : PE X a (tE X.K W ca)) (hg : Gl X "range" := by rfl) (hs : noStar a = true := by rfl) : PI X tg (.Call (.Name "range" p) [a] [] pos) (tI X.K W (iRng1 ca)) := si_rng1 hg hm ha (noStar_ok hs)
theorem wRng2 {tg : Expr} (hm : X.mg "range" = none) (ha : PE X a (tE X.K W ca)) (hb : PE X b (tE X.K W cb)) (hg : Gl X "range" := by rfl) (hs : noStar a = true := by rfl) (hs2 : noStar b = true := by rfl) : PI X tg (.Call (.Name "range" p) [a, b] [] pos) (tI X.K W (iRng2 ca cb)) := si_rng2 hg hm ha hb (noStar_ok hs) (noStar_ok hs2)
end
/-! ### comprehensions -/
section
variable {X : Cx} {W : Wy} {elt tg iter : Expr} {ifs : List Expr} {scope : Scope} {pos spos py : Pos} {g : Gv} {t : TG} {it : Lv} {tt : Tv} {ce : Ev}
theorem wComp (own : List (Str × Nat)) (hN : X.N.Nodup) (hc : X.calm = true) (sg : SG X.K g t) (gw : SGw t (own.map (·.2))) (hi : PI X tg iter (tI X.K W it))
    (hg : ∀ (s : Shared) (H : Hp) (C : Addr) (cl : List (Str × Addr)) (fp : List Addr), PG (X.blk s H scope (compEnvC scope cl C X.env) fp) tg t) (ht : ∀ (s : Shared) (H : Hp) (C : Addr) (cl : List (Str × Addr)) (fp : List Addr), PTs (X.blk s H scope (compEnvC scope cl C X.env) fp) ifs (tT X.K W0 tt))
    (he : ∀ (s : Shared) (H : Hp) (C : Addr) (cl : List (Str × Addr)) (fp : List Addr), PE (X.blk s H scope (compEnvC scope cl C X.env) fp) elt (tE X.K W0 ce)) (ok : blkC X.N X.env.scope scope own = true := by rfl) (hs : ∀ x, foldedSetIterable iter X.env x = pure x := by intro _; rfl) :
    PE X (.ListComp elt [⟨tg, iter, ifs, 0⟩] scope pos) (tE X.K W (eComp (own.map (·.2)) g it tt ce)) :=
  PE.imp (pe_lc hc hN hi (blkOk_by ok) hg ht he hs) fun σ H Q h => comp_core sg gw h
theorem wSetC (i : Nat) {y : Str} (own : List (Str × Nat)) (hN : X.N.Nodup) (hc : X.calm = true) (sg : SG X.K g t) (gw : SGw t (own.map (·.2))) (hi : PI X tg iter (tI X.K W it))
    (hg : ∀ (s : Shared) (H : Hp) (C : Addr) (cl : List (Str × Addr)) (fp : List Addr), PG (X.blk s H scope (compEnvC scope cl C X.env) fp) tg t) (ht : ∀ (s : Shared) (H : Hp) (C : Addr) (cl : List (Str × Addr)) (fp : List Addr), PTs (X.blk s H scope (compEnvC scope cl C X.env) fp) ifs (tT X.K W0 tt))
    (he : ∀ (s : Shared) (H : Hp) (C : Addr) (cl : List (Str × Addr)) (fp : List Addr), PE (X.blk s H scope (compEnvC scope cl C X.env) fp) elt (tE X.K W0 ce)) (ok : blkC X.N X.env.scope scope own = true := by rfl) (hs : ∀ x, foldedSetIterable iter X.env x = pure x := by intro _; rfl)
    (hy : X.N[i]? = some y := by rfl) (hyl : X.env.scope.names.lookup y = some .local := by rfl) (hsw : swapsWith (.ListComp elt [⟨tg, iter, ifs, 0⟩] scope pos) (some (.Name y py)) spos.line X.env = pure true := by rfl) :
    PS X (.Assign [.Name y py] (.ListComp elt [⟨tg, iter, ifs, 0⟩] scope pos) spos) (tS X.K W (sSet i (eComp (own.map (·.2)) g it tt ce))) :=
  PS.imp (ps_setLc hc hN hy hyl hsw hi (blkOk_by ok) hg ht he hs) fun D σ H h => comp_core sg gw (tAsg_set h)
theorem wSetMC (i : Nat) {y : Str} (own : List (Str × Nat)) (hN : X.N.Nodup) (hc : X.calm = true) (sg : SG X.K g t) (gw : SGw t (own.map (·.2))) (hi : PI X tg iter (tI X.K W it))
    (hg : ∀ (s : Shared) (H : Hp) (C : Addr) (cl : List (Str × Addr)) (fp : List Addr), PG (X.blk s H scope (compEnvC scope cl C X.env) fp) tg t) (ht : ∀ (s : Shared) (H : Hp) (C : Addr) (cl : List (Str × Addr)) (fp : List Addr), PTs (X.blk s H scope (compEnvC scope cl C X.env) fp) ifs (tT X.K W0 tt))
    (he : ∀ (s : Shared) (H : Hp) (C : Addr) (cl : List (Str × Addr)) (fp : List Addr), PE (X.blk s H scope (compEnvC scope cl C X.env) fp) elt (tE X.K W0 ce)) (ok : blkC X.N X.env.scope scope own = true := by rfl) (hs : ∀ x, foldedSetIterable iter X.env x = pure x := by intro _; rfl)
    (hy : X.N[i]? = some y := by rfl) (hyl : X.env.scope.names.lookup y = some .local := by rfl) (hsw : swapsWith (.ListComp elt [⟨tg, iter, ifs, 0⟩] scope pos) (some (.Name y py)) spos.line X.env = pure true := by rfl) :
    PS X (.Assign [.Name y py] (.ListComp elt [⟨tg, iter, ifs, 0⟩] scope pos) spos) (tS X.K W (sSetM i (eComp (own.map (·.2)) g it tt ce))) :=
  PS.imp (ps_setLc hc hN hy hyl hsw hi (blkOk_by ok) hg ht he hs) fun D σ H h => comp_core sg gw (tAsg_setM h)
end
end UI
namespace UI
open PySem L2
/-! ### tests of a comprehension: none -/
theorem PTs.imp {X : Cx} {es : List Expr} {t t' : TT} (h : PTs X es t) (k : ∀ σ H Q, t' σ H Q → t σ H Q) : PTs X es t' := ⟨fun pins s σ H Q I q => h.run pins s σ H Q I (k σ H Q q)⟩
theorem noIfs {X : Cx} {W : Wy} : PTs X [] (tT X.K W UI.tYes) := PTs.imp pts_nil fun σ H Q h => by
  obtain ⟨φ, ρ, S, st, g⟩ := h
  exact g H (.refl st.cells)
/-! ### classes -/
def oexB (K : PySem.W.Frag) (C : Addr) : Bool := (match K.lookup C with
  | some ⟨.type "type", _, .cls cd, sl⟩ => (match cd.mro, sl.toList with
    | .ref C' :: bm, [_, _, _, _, some (.builtin n), _] => C' == C && n == "ValueError.__new__" && !cd.hasDel && cd.hasDict && PySem.HandSPX.refsVE bm
    | _, _ => false)
  | _ => false) && (decide (PySem.W.findIn K (.ref C) "__setattr__" = some (some (.builtin "object.__setattr__"))) && (decide (PySem.W.subIn K (.ref C) (.type "BaseException") = some true) && (decide (PySem.W.typeIn K (.ref C) = some (.type "type")) && PySem.W.keepIn K (.ref C))))
theorem oexB_ok {K : PySem.W.Frag} {C : Addr} (h : oexB K C = true) : OexC K C := by
  unfold oexB at h
  rw [Bool.and_eq_true] at h
  obtain ⟨q, h⟩ := h
  rw [Bool.and_eq_true] at h
  obtain ⟨h2, h⟩ := h
  rw [Bool.and_eq_true] at h
  obtain ⟨h3, h⟩ := h
  rw [Bool.and_eq_true] at h
  obtain ⟨h4, h5⟩ := h
  refine ⟨?_, of_decide_eq_true h2, of_decide_eq_true h3, of_decide_eq_true h4, h5⟩
  split at q
  · rename_i dd cd sl ho
    split at q
    · rename_i C' bm k0 k1 k2 k3 n k5 hm hs
      simp only [Bool.and_eq_true, beq_iff_eq, Bool.not_eq_true'] at q
      obtain ⟨⟨⟨⟨rfl, rfl⟩, hdel⟩, hdct⟩, hr⟩ := q
      obtain ⟨nm, bs, mro, ns, qn, hd, sn, sub, ab, col, del⟩ := cd
      dsimp only at hm hdel hdct
      subst hm hdel hdct
      have hsl : sl = #[k0, k1, k2, k3, some (.builtin "ValueError.__new__"), k5] := by
        obtain ⟨l⟩ := sl
        simp only at hs
        rw [hs]
      subst hsl
      exact ⟨nm, qn, ns, bs, bm, sn, sub, ab, col, dd, k0, k1, k2, k3, k5, ho, hr⟩
    · cases q
  · cases q
/-- the own __init__ of the class named x stands here -/
def iniA (K : PySem.W.Frag) (x : Str) : Addr := He.fAd K (x, some "__init__")
def iniB (K : PySem.W.Frag) (x : Str) : Bool := decide (PySem.W.findIn K (.ref (He.ga K x)) "__init__" = some (some (.ref (iniA K x)))) && decide (PySem.W.typeIn K (.ref (iniA K x)) = some (.type "function"))
/-! ### __init__: its fields from its parameters -/
def spIni (K : PySem.W.Frag) (fields : List Str) : Sp := fun vs H Q _ => ∃ (a C : Addr) (ws : List V), vs = .ref a :: ws ∧ ws.length = fields.length ∧ OexC K C ∧ (∀ f ∈ fields, PySem.W.findIn K (.ref C) f = some none) ∧ H a = some (exo a C none) ∧
  ∀ d, H d = none → d ≠ a → Q .non (upd (upd H d (exd d (fields.zip ws).reverse)) a (exo a C (some d)))
/-- self.f = the i-th, .. -/
def tIni (K : PySem.W.Frag) : List Str → Nat → TS
  | [], _ => tNext
  | f :: fs, i => tSeq (tOst K f (tVar 0) (tVar i)) (tIni K fs (i + 1))
theorem ini_go {K : PySem.W.Frag} {a C dx : Addr} {σ : L2.St} {D : Ends} (T : OexC K C) (h0 : σ[0]? = some (some (.ref a))) (hda : dx ≠ a) : ∀ (fs : List Str) (i : Nat) (ws : List V) (H : Hp) (gs : List (Str × V)), (∀ f ∈ fs, PySem.W.findIn K (.ref C) f = some none) → ws.length = fs.length → gs.length + fs.length ≤ 900 →
    (∀ (j : Nat) (v : V), ws[j]? = some v → σ[i + j]? = some (some v)) → H a = some (exo a C (some dx)) → H dx = some (exd dx gs) → D.nx σ (upd H dx (exd dx ((fs.zip ws).reverse ++ gs))) → tIni K fs i D σ H
  | [], i, ws, H, gs, hf, hl, hg, hs, ea, ed, q => by
    have e : upd H dx (exd dx gs) = H := by
      funext b
      by_cases hb : b = dx
      · rw [hb, upd_same, ed]
      · rw [upd_ne hb]
    have q' : D.nx σ (upd H dx (exd dx gs)) := q
    rw [e] at q'
    exact q'
  | f :: fs, i, [], H, gs, hf, hl, hg, hs, ea, ed, q => by simp at hl
  | f :: fs, i, v :: ws, H, gs, hf, hl, hg, hs, ea, ed, q => by
    simp only [List.length_cons] at hg hl
    refine ⟨v, hs 0 v rfl, .ref a, h0, a, C, rfl, T, hf f (List.mem_cons_self ..), .inr ⟨dx, gs, ea, ed, by omega, ?_⟩⟩
    refine ini_go T h0 hda fs (i + 1) ws _ ((f, v) :: gs) (fun g hg => hf g (List.mem_cons_of_mem _ hg)) (by omega) (by simp only [List.length_cons]; omega) (fun j w hw => ?_) ?_ upd_same ?_
    · have := hs (j + 1) w hw
      rw [show i + 1 + j = i + (j + 1) by omega]
      exact this
    · rw [upd_ne (Ne.symm hda)]
      exact ea
    · have e : upd (upd H dx (exd dx ((f, v) :: gs))) dx (exd dx ((fs.zip ws).reverse ++ (f, v) :: gs)) = upd H dx (exd dx (((f :: fs).zip (v :: ws)).reverse ++ gs)) := by
        funext b
        by_cases hb : b = dx
        · rw [hb, upd_same, upd_same, List.zip_cons_cons, List.reverse_cons, List.append_assoc]
          rfl
        · rw [upd_ne hb, upd_ne hb, upd_ne hb]
      rw [e]
      exact q
/-- the first field -/
theorem ini_run {K : PySem.W.Frag} {σ : L2.St} {D : Ends} {H : Hp} {Q : VK} {vs : List V} {f : Str} {fs : List Str} (hn : (f :: fs).length ≤ 900) (hσ : ∀ (j : Nat) (v : V), vs[j]? = some v → σ[j]? = some (some v)) (hD : ∀ H', Q .non H' → D.nx σ H') (h : spIni K (f :: fs) vs H Q E) : tIni K (f :: fs) 1 D σ H := by
  obtain ⟨a, C, ws, rfl, hl, T, hf, ea, q⟩ := h
  cases ws with
  | nil => simp at hl
  | cons v ws =>
    have h0 := hσ 0 _ rfl
    simp only [List.length_cons] at hl hn
    refine ⟨v, hσ 1 v rfl, .ref a, h0, a, C, rfl, T, hf f (List.mem_cons_self ..), .inl ⟨ea, fun dx hdx hda => ?_⟩⟩
    refine ini_go T h0 hda fs 2 ws _ [(f, v)] (fun g hg => hf g (List.mem_cons_of_mem _ hg)) (by omega) (by simp only [List.length_cons, List.length_nil]; omega) (fun j w hw => ?_) upd_same ?_ ?_
    · rw [show 2 + j = j + 2 by omega]
      exact hσ (j + 2) w hw
    · rw [upd_ne hda]
      exact upd_same
    · have e : upd (upd (upd H dx (exd dx [(f, v)])) a (exo a C (some dx))) dx (exd dx ((fs.zip ws).reverse ++ [(f, v)])) = upd (upd H dx (exd dx ((f :: fs).zip (v :: ws)).reverse)) a (exo a C (some dx)) := by
        funext b
        by_cases hb : b = dx
        · rw [hb, upd_same, upd_ne hda, upd_same, List.zip_cons_cons, List.reverse_cons]
        · by_cases hc : b = a
          · rw [hc, upd_ne (Ne.symm hda), upd_same, upd_same]
          · rw [upd_ne hb, upd_ne hc, upd_ne hb, upd_ne hc, upd_ne hb]
      rw [e]
      exact hD _ (q dx hdx hda)
theorem ini_ok {P : Program} {w : World} {K : PySem.W.Frag} {mg : Str → Option Value} {base : Heap} {nm qual : Str} {params : Arguments} {body : List Stmt} {scope : Scope} {dvs : List V} {kws : List (Str × V)} {fI : Addr} {fd : FuncData} {N ps : List Str} {k : Nat} {g : Str} {fs : List Str}
    (Fd : FunD K nm qual params body scope dvs kws fI fd) (Sc : FnScope N ps scope) (hp : ps.length = (g :: fs).length + 1) (hn : (g :: fs).length ≤ 900)
    (hb : ∀ (cdv : Value) (A : Around) (outer : List PySem.Env) (s : Shared) (H : Hp) (E : XK), Room k (A.deeper (PyProof.Rows.envOfC qual scope s.heap.objs.size fI cdv)) → PSs (cxOf (L2.CX P w) P w K mg base N qual scope fI cdv A outer s H E) body (tIni K (g :: fs) 1)) :
    FnOk P w K mg base (L2.CX P w) (k + 1) fI fd ps (spIni K (g :: fs)) := by
  refine Fd.ok Sc (fun vs H Q E h => ?_) fun cdv A outer s H vs Q E hr h => ⟨_, hb cdv A outer s H E hr, ini_run (E := E) hn (fun j v e => ?_) (fun _ q => q) h⟩
  · obtain ⟨a, C, ws, rfl, hl, _⟩ := h
    rw [List.length_cons, hl, hp]
  · unfold L2.start
    rw [List.getElem?_append_left (by simp; exact (List.getElem?_eq_some_iff.mp e).1), List.getElem?_map, e]
    rfl
/-! ### raise C(e, ..) -/
/-- what is known of an own exception class with its own __init__ -/
def XcI (P : Program) (w : World) (K : PySem.W.Frag) (mg : Str → Option Value) (base : Heap) (k : Nat) (x : Str) (fields : List Str) : Prop := ∃ (fd : FuncData) (ps : List Str), FnOk P w K mg base (L2.CX P w) k (iniA K x) fd ps (spIni K fields) ∧ Binds K fd ps [] ∧ OexC K (He.ga K x) ∧ iniB K x = true ∧ mg x = some (.ref (He.ga K x)) ∧ ∀ f ∈ fields, PySem.W.findIn K (.ref (He.ga K x)) f = some none
theorem zip_look : ∀ {fs : List Str} {ds : List D} {vs : List V} {K : PySem.W.Frag} {H : Hp} {f : Str} {e : D}, fs.Nodup → RepL K H ds vs → (fs.zip ds).lookup f = some e → ∃ v, (fs.zip vs).lookup f = some v ∧ Rep K H e v
  | [], _, _, _, _, _, _, _, _, h => by cases h
  | _ :: _, [], _, _, _, _, _, _, _, h => by cases h
  | g :: fs, d :: ds, vs, K, H, f, e, nd, r, h => by
    simp only [RepL] at r
    obtain ⟨v, ws, rfl, r1, r2⟩ := r
    rw [List.zip_cons_cons, List.lookup_cons] at h ⊢
    cases q : f == g with
    | true =>
      rw [q] at h
      cases h
      exact ⟨v, rfl, r1⟩
    | false =>
      rw [q] at h
      exact zip_look (List.nodup_cons.mp nd).2 r2 h
theorem lookup_append {α : Type} {f : Str} : ∀ {xs ys : List (Str × α)}, (xs ++ ys).lookup f = (xs.lookup f).or (ys.lookup f)
  | [], ys => rfl
  | (g, v) :: xs, ys => by
    rw [List.cons_append, List.lookup_cons, List.lookup_cons]
    cases f == g with
    | true => rfl
    | false => exact lookup_append
theorem lookup_none {α : Type} {f : Str} : ∀ {xs : List (Str × α)}, f ∉ xs.map (·.1) → xs.lookup f = none
  | [], _ => rfl
  | (g, v) :: xs, h => by
    rw [List.lookup_cons]
    have hg : (f == g) = false := by
      rw [beq_eq_false_iff_ne]
      intro e
      exact h (by rw [e]; simp)
    rw [hg]
    exact lookup_none fun z => h (by simp only [List.map_cons]; exact List.mem_cons_of_mem _ z)
theorem rev_look {α : Type} {f : Str} : ∀ {xs : List (Str × α)}, (xs.map (·.1)).Nodup → xs.reverse.lookup f = xs.lookup f
  | [], _ => rfl
  | (g, v) :: xs, nd => by
    have nd' := List.nodup_cons.mp nd
    have e1 : ((g, v) :: xs).lookup f = (match f == g with | true => some v | false => xs.lookup f) := List.lookup_cons ..
    have e2 : ([(g, v)] : List (Str × α)).lookup f = (match f == g with | true => some v | false => none) := by
      rw [List.lookup_cons]
      rfl
    rw [List.reverse_cons, lookup_append, rev_look nd'.2, e1, e2]
    cases q : f == g with
    | true =>
      have e : f = g := eq_of_beq q
      rw [lookup_none (by rw [e]; exact nd'.1)]
      rfl
    | false => cases xs.lookup f <;> rfl
theorem zip_fst_nodup {α : Type} : ∀ {fs : List Str} {ds : List α}, fs.Nodup → ((fs.zip ds).map (·.1)).Nodup
  | [], _, _ => by simp
  | _ :: _, [], _ => by simp
  | g :: fs, d :: ds, nd => by
    rw [List.zip_cons_cons, List.map_cons, List.nodup_cons]
    have nd' := List.nodup_cons.mp nd
    refine ⟨fun z => nd'.1 ?_, zip_fst_nodup nd'.2⟩
    obtain ⟨⟨x, y⟩, h1, h2⟩ := List.mem_map.mp z
    have h2 : x = g := h2
    rw [← h2]
    exact (List.of_mem_zip h1).1
theorem ss_raiseI {X : Cx} {W : Wy} {x : Str} {p pos pos' : Pos} {e : Expr} {es : List Expr} {k : Nat} {fields : List Str} {l : Lv} (h : XcI X.prog X.w X.K X.mg X.base k x fields) (hr : Room (k + 1) X.A) (hc : X.calm = true) (tk : Takes X W.w) (nd : fields.Nodup) (hz : fields.length ≤ 1000)
    (ha : PA X (e :: es) (tL X.K W l)) (hg : Gl X x := by rfl) (hdb : (x == ("__debug__" : Str)) = false := by decide) (hs : noStars (e :: es) = true := by rfl) :
    PS X (.Raise (some (.Call (.Name x p) (e :: es) [] pos)) none pos') (tS X.K W (sRaise x fields l)) := by
  obtain ⟨fd, ps, Fn, hb, T, hi, hm, hf⟩ := h
  unfold iniB at hi
  rw [Bool.and_eq_true] at hi
  have px : L2.Passes (L2.CX X.prog X.w) X (fun _ _ _ => False) := fun _ _ _ _ _ _ _ h => by
    obtain ⟨_, _, _, _, _, _, _, _, _, _, _, _, z⟩ := h
    exact z.elim
  refine PS.imp (ps_raise hc tk (pmk_oex T (of_decide_eq_true hi.1) (of_decide_eq_true hi.2) Fn hr hb .nil px hg hm ha hdb (starEach_cons (noStars_ok hs e (List.mem_cons_self ..))) (plain_es (fun y hy => noStars_ok hs y (List.mem_cons_of_mem _ hy)) _ _))) fun D σ H h => ?_
  obtain ⟨φ, ρ, S, st, g⟩ := h
  refine ⟨φ, ρ, S, st, (GG.ofS st g).mono fun ds S1 g1 vs H1 s1 q1 => ?_⟩
  split at g1
  case isFalse => exact g1.elim
  rename_i hl
  have hv : vs.length = fields.length := q1.length.trans hl
  refine ⟨by rw [hv]; exact hz, fun a ha0 => ⟨a, He.ga X.K x, vs, by rw [List.append_nil], hv, T, hf, upd_same, fun d hd hda => ?_⟩⟩
  rw [upd_ne hda] at hd
  refine ⟨rfl, d, (fields.zip vs).reverse, upd_same, by rw [upd_ne hda]; exact upd_same, hd, ?_⟩
  have eH : upd (del (upd (upd (upd H1 a (exo a (He.ga X.K x) none)) d (exd d (fields.zip vs).reverse)) a (exo a (He.ga X.K x) (some d))) a) d (.xd (fields.zip vs).reverse) = upd H1 d (.xd (fields.zip vs).reverse) := by
    funext b
    by_cases h1 : b = d
    · rw [h1, upd_same, upd_same]
    · rw [upd_ne h1, upd_ne h1]
      by_cases h2 : b = a
      · rw [h2, del_same, ha0]
      · rw [del_ne h2, upd_ne h2, upd_ne h1, upd_ne h2]
  rw [eH]
  have s2 : Stp X.K φ S1 H1 S1 (upd H1 d (.xd (fields.zip vs).reverse)) := .new s1.cells hd
  have s12 := s1.trans s2
  refine g1 φ _ (some d) σ _ s12.g (st.step s12) ⟨rfl, .inr ⟨d, _, rfl, hid_of (new_notOwn s1.cells hd) upd_same, fun f dv e1 => ?_⟩⟩
  obtain ⟨v, h1, h2⟩ := zip_look nd q1 e1
  exact ⟨v, (rev_look (zip_fst_nodup nd)).trans h1, Rep.mono s2.sub _ _ h2⟩
end UI
namespace UI
open PySem L2 PyProof.Rows
/-! ### enumerate of a list or a tuple -/
theorem meets_enum1 {v : Value} {o : Obj} {H : Heap → Prop} (B : Begins v o H) :
    PySem.Meets (Builtin.«enumerate.__new__» ⟨[.type "enumerate", v], []⟩) (fun _ R s => H s.heap ∧
      R (.ok (.ret (.ref (s.heap.push o).objs.size))) { s with heap := (s.heap.push o).push { cls := .type "enumerate", data := .fields #[.none, .bool false, .ref s.heap.objs.size, rawInt 0, .none, .none] } }) :=
  .of_wp fun prog w A R s h => by
    obtain ⟨hp, g, d, tk, os⟩ := s; obtain ⟨h1, h⟩ := h
    have hsub := sub_enumerate
    have q1 : ∀ {A' : Around} {E : Value → Shared → Prop} {Q : Value → Shared → Prop}, Q (.ref hp.objs.size) ⟨hp.push o, g, d, tk, os⟩ → PySem.wpAny (model prog w) A' (pyIter v) Q E ⟨hp, g, d, tk, os⟩ := fun q => B.iter prog w _ _ ⟨hp, g, d, tk, os⟩ _ h1 q
    wp_walk using q1
    refine wpAny_stack_any fun st => wpAny_pure ?_
    split
    · rename_i c _ _ _ _ _
      cases (c == Value.type "enumerate") <;> (wp_walk using q1; exact ⟨_, rfl, h⟩)
    · wp_walk using q1
      exact ⟨_, rfl, h⟩
theorem call_enum1 {prog : Program} {w : World} {A : Around} {E : Value → Shared → Prop} {s : Shared} {v : Value} {o : Obj} {H : Heap → Prop} {Q : Value → Shared → Prop} (B : Begins v o H) (h1 : H s.heap)
    (h : ∀ h', IsEnum h' (s.heap.objs.size + 1) s.heap.objs.size 0 .none → h'.get? s.heap.objs.size = some o → (∀ b o, s.heap.get? b = some o → h'.get? b = some o) → Q (.ref (s.heap.objs.size + 1)) { s with heap := h' }) :
    PySem.wpAny (model prog w) A (call (.type "enumerate") [v]) Q E s := by
  refine callType_new F.called_enumerate (by decide) (F.typeCall_enumerate_1 _) (F.newCall_enumerate_1 _) (fun obj => F.args_object_init_2 obj _) F.entry_enumerate_new (meets_enum1 B) ⟨h1, ?_⟩
  have hz : (s.heap.push o).objs.size = s.heap.objs.size + 1 := Heap.size_push ..
  show _ ∧ _
  rw [hz]
  have hE : IsEnum ((s.heap.push o).push { cls := .type "enumerate", data := .fields #[.none, .bool false, .ref s.heap.objs.size, rawInt 0, .none, .none] }) (s.heap.objs.size + 1) s.heap.objs.size 0 .none := by
    have k := Heap.get?_push_size (s.heap.push o) (o := { cls := .type "enumerate", data := .fields #[.none, .bool false, .ref s.heap.objs.size, rawInt 0, .none, .none] }) rfl
    rw [hz] at k
    exact k
  exact ⟨⟨_, hE, rfl⟩, h _ hE (Heap.get?_push_of_some _ (Heap.get?_push_size _ B.free)) fun b o x => Heap.get?_push_of_some _ (Heap.get?_push_of_some _ x)⟩
/-- the tuple at a, each item in a new pair -/
def IteT (K : PySem.W.Frag) (a : Addr) : It :=
  ⟨fun i H => ∃ (xs : List V) (x : V), SqT K H a xs ∧ xs[i]? = some x, fun i H v H' => ∃ T x, v = .ref T ∧ H T = none ∧ H' = upd H T (.tup [.int (i : Nat), x]) ∧ ∀ xs, SqT K H a xs → xs[i]? = some x, fun i H => ∃ xs : List V, SqT K H a xs ∧ xs.length ≤ i⟩
theorem turn_enumT {P : Program} {w : World} {K : PySem.W.Frag} {elts : List Expr} {kk : Nat} {tpos : Pos} (a e it : Addr) (hai : a ≠ it) (hae : a ≠ e) :
    Turn P w K (.Tuple elts kk tpos) (IteT K a) [e, it] e (fun i h => (∃ old, IsEnum h e it ((i : Nat) : Int) old) ∧ h.IsTupleIter it a i ∧ e ≠ it) where
  mem := by simp
  obj := fun i h st b hb => by
    obtain ⟨⟨old, he⟩, ⟨o, ho, hc, hd⟩, _⟩ := st
    rcases List.mem_cons.mp hb with z | z
    · rw [z]
      exact ⟨_, he, fun v q => nomatch q⟩
    · exact ⟨o, by rw [List.mem_singleton.mp z]; exact ho, fun v q => by rw [hd] at q; cases q⟩
  keep := fun i h h' st k => let ⟨⟨old, he⟩, hi, hne⟩ := st; ⟨⟨old, k e (by simp) _ he⟩, hi.at fun o q => k it (by simp) o q, hne⟩
  item := by
    intro X hP hw hK hc i pins s σ H E I hf st hg
    subst hP hw hK
    obtain ⟨⟨old, he⟩, hit, hne⟩ := st
    obtain ⟨xs, x, hq, hx⟩ := hg
    obtain ⟨its, rv, p, hz⟩ := I.tuple hq
    obtain ⟨u, hu, ru⟩ := rv.get hx
    have hel : e < s.heap.objs.size := Heap.lt_size he
    have hil : it < s.heap.objs.size := by obtain ⟨_, q, _⟩ := hit; exact Heap.lt_size q
    have hT : s.heap.IsTuple a its.toArray := p
    have hlt : i < its.toArray.size := by
      have := (List.getElem?_eq_some_iff.mp hu).1
      simpa using this
    refine wpAny_pyNext_enum_itemD (Draws.tuple (A := X.A.in1) (I.ok.hd hc) it a hai its.toArray) he ⟨hit, hT⟩ hlt hne (by simp [hne, Ne.symm hae]) fun y h' tk hy ho hit' hT1 hsz hk => ?_
    have ey : y = u := by
      rw [List.getElem?_toArray, hu] at hy
      exact (Option.some.inj hy).symm
    subst ey
    refine ⟨_, rfl, wpAny_letOwnedTupleGo_enum (s := { s with heap := h', toks := tk + 1 }) ho fun h'' he' sb => ?_⟩
    have hT2 : h''.get? s.heap.objs.size = some { cls := .type "tuple", data := .seq #[.int i tk, y] } := (sb.2 _ (Nat.ne_of_gt hel)).trans hT1
    have new : ObjOk X.prog X.w (upd H s.heap.objs.size (.tup [.int (i : Nat), x])) h'' s.heap.objs.size (.tup [.int (i : Nat), x]) :=
      ⟨by show 2 ≤ sizeLine; decide, [.int i tk, y], .cons ⟨_, rfl⟩ (.cons ru .nil), ⟨_, hT2, rfl, _, rfl⟩⟩
    have I1 : Inv X pins σ (upd H s.heap.objs.size (.tup [.int (i : Nat), x])) { s with heap := h'', toks := tk + 1 } :=
      I.turnedNew (ch := [e, it]) (fun b ob hb q => (sb.2 b (fun z => hb (by simp [z]))).trans (hk b ob (fun z => hb (by simp [z])) (fun z => hb (by simp [z])) q)) hf (Nat.le_refl _) new
    refine ⟨.ref s.heap.objs.size, _, I1, rfl, ⟨_, x, rfl, I.hok.fresh (Nat.le_refl _), rfl, fun ys hy => by rw [I.tuple_inj hy hq]; exact hx⟩, ⟨⟨y, ?_⟩, hit'.1.at fun o q => (sb.2 it (Ne.symm hne)).trans q, hne⟩, fun b hb => ?_⟩
    · have e1 : ((i + 1 : Nat) : Int) = (i : Int) + 1 := by omega
      rw [e1]; exact he'
    · have hb' : b < s.heap.objs.size := by
        rcases List.mem_cons.mp hb with z | z
        · rw [z]; exact hel
        · rw [List.mem_singleton.mp z]; exact hil
      rw [upd_ne (Nat.ne_of_lt hb')]
      exact (hf b hb).1
  done := by
    intro X hP hw hK hc i pins s σ H E I hf st hg
    subst hP hw hK
    obtain ⟨⟨old, he⟩, hit, hne⟩ := st
    obtain ⟨xs, hq, hx⟩ := hg
    obtain ⟨its, rv, p, hz⟩ := I.tuple hq
    obtain ⟨f0, f1, f2, f3, f4, f5⟩ := hf it (by simp)
    have hl := rv.length
    have hT : s.heap.IsTuple a its.toArray := p
    have hn : its.toArray[i]? = none := by simp; omega
    have hT' : s.TypeIs (.ref e) "enumerate" := ⟨_, he, rfl⟩
    unfold pyNext
    refine wpAny_bind (wpAny_attempt (wpAny_callSpecial?_slot (name := Str.ofString "__next__") hT' F.slot_enumerate_next
      (wpAny_call_entry F.slot_enumerate_next hT' F.entry_enumerate_next ?_ (F.args_enumerate_next_1 _))))
    show PySem.wpAny _ _ (field (.ref e) 2 >>= _) _ _ _
    refine wpAny_bind (wpAny_field he rfl (x := .ref it) rfl ?_)
    refine wpAny_bind (wpAny_nextOf_tuple_end (I.ok.hd hc) hit hT hn fun h' x he' hx' => ?_)
    obtain ⟨o, ho, hcl⟩ := hx'
    refine wpAny_bind (wpAny_isInstance (T := "StopIteration") (b := true) ⟨o, ho, hcl⟩ isSubtype_stop ?_)
    exact wpAny_pure ⟨rfl, I.turned (t' := s.toks) (fun b o hb e => he' b o hb e) f0 f1 f3 f4 f5⟩
  self := fun A i s Q E st h => let ⟨⟨_, he⟩, _⟩ := st; wpAny_pyIter_enum he h
/-- enumerate(e), e a list or a tuple -/
def iEnT (K : PySem.W.Frag) (ta : TA) : TI := fun σ H R => ta σ H fun vs H1 => ∃ a, vs = [.ref a] ∧ ((∃ xs, SqL K H1 a xs) ∧ R (Ite K a) H1 ∨ (∃ xs, SqT K H1 a xs) ∧ R (IteT K a) H1)
theorem pi_enT {X : Cx} {e : Expr} {ta : TA} {p pos tpos : Pos} {elts : List Expr} {kk : Nat} (hg : Gl X "enumerate") (hm : X.mg "enumerate" = none) (ha : PA X [e] ta) (hs : starEach [e] X.env = [(false, eval e X.env)]) :
    PI X (.Tuple elts kk tpos) (.Call (.Name "enumerate" p) [e] [] pos) (iEnT X.K ta) := by
  refine ⟨fun pins s σ H R I h => ?_⟩
  refine Call_ (ld_blt I hg hm boot_enumerate (PyProof.Rows.callWith_type1 (thn (ha.run pos pins s σ H _ I h) fun us s1 ⟨vs, H1, I1, r1, a, ex, q1⟩ => ?_) hs rfl))
  subst ex
  cases r1 with
  | cons r rr =>
    cases rr
    cases r
    have nw : ∀ b : Addr, b ∈ [s1.heap.objs.size + 1, s1.heap.objs.size] → FpOk X pins H1 b := fun b hb => by
      have hle : s1.heap.objs.size ≤ b := by
        rcases List.mem_cons.mp hb with z | z
        · rw [z]; exact Nat.le_add_right _ _
        · rw [List.mem_singleton.mp z]; exact Nat.le_refl _
      exact I1.fpOk hle (I1.hok.fresh hle)
    rcases q1 with ⟨⟨xs, hq⟩, q⟩ | ⟨⟨xs, hq⟩, q⟩
    · obtain ⟨its, rv, p', hz⟩ := I1.list hq
      refine call_enumerate_list p'.isList fun h' he hit hsz hk => wpAny_pyIter_enum he ?_
      have I2 : Inv X pins σ H1 { s1 with heap := h' } := I1.kept (t' := s1.toks) hk
      exact ⟨s1.heap.objs.size + 1, _, _, _, H1, rfl, I2, turn_enum a (s1.heap.objs.size + 1) s1.heap.objs.size, ⟨⟨.none, he⟩, hit, Nat.succ_ne_self _⟩, nw, q⟩
    · obtain ⟨its, rv, p', hz⟩ := I1.tuple hq
      have hT : s1.heap.IsTuple a its.toArray := p'
      have hal : a < s1.heap.objs.size := by obtain ⟨_, e, _⟩ := id hT; exact Heap.lt_size e
      refine call_enum1 (begins_tuple a its.toArray) hT fun h' he hit hk => wpAny_pyIter_enum he ?_
      have I2 : Inv X pins σ H1 { s1 with heap := h' } := I1.kept (t' := s1.toks) hk
      exact ⟨s1.heap.objs.size + 1, _, _, _, H1, rfl, I2, turn_enumT a (s1.heap.objs.size + 1) s1.heap.objs.size (Nat.ne_of_lt hal) (Nat.ne_of_lt (Nat.lt_succ_of_lt hal)), ⟨⟨.none, he⟩, ⟨_, hit, rfl, rfl⟩, Nat.succ_ne_self _⟩, nw, q⟩
def enumD : Nat → List D → List D
  | _, [] => []
  | i, d :: ds => .tup [.int (i : Nat), d] :: enumD (i + 1) ds
theorem enumD_length : ∀ (i : Nat) (ds : List D), (enumD i ds).length = ds.length
  | _, [] => rfl
  | i, d :: ds => by rw [enumD, List.length_cons, List.length_cons, enumD_length]
theorem enumD_get : ∀ (i : Nat) (ds : List D) (j : Nat), (enumD i ds)[j]? = (ds[j]?).map fun d => .tup [.int ((i + j : Nat) : Int), d]
  | _, [], _ => rfl
  | i, d :: ds, 0 => rfl
  | i, d :: ds, j + 1 => by
    rw [enumD, List.getElem?_cons_succ, List.getElem?_cons_succ, enumD_get]
    rw [show i + 1 + j = i + (j + 1) by omega]
def iEn (e : Ev) : Lv := fun ρ S => (e ρ S).bind fun o S1 => (force o S1).bind fun d S2 => .of ((itemsOf d).map (enumD 0)) S2
theorem it_pair {K : PySem.W.Frag} {φ : Fm} {S : Store} {H : Hp} {T : Addr} {i : Nat} {d : D} {x : V} (c : Cells K φ S H) (hT : H T = none) (r : Rep K (hid φ S H) d x) : Stp K φ S H S (upd H T (.tup [.int (i : Nat), x])) ∧ Rep K (hid φ S (upd H T (.tup [.int (i : Nat), x]))) (.tup [.int (i : Nat), d]) (.ref T) := by
  refine ⟨.new c hT, ?_⟩
  have h1 : Rep K (hid φ S H) (.int (i : Nat)) (.int (i : Nat)) := by simp only [Rep]
  exact OOk.newT (ds := [.int (i : Nat), d]) (vs := [.int (i : Nat), x]) c hT (.cons h1 (.one r))
theorem it_enum {K : PySem.W.Frag} {φ : Fm} {S : Store} {H : Hp} {a : Addr} {ds : List D} {vs : List V} (h : SqL K (hid φ S H) a vs) (r : RepL K (hid φ S H) ds vs) : ItOk K φ S H (enumD 0 ds) (Ite K a) := fun φ' S' H' s => by
  have h' : SqL K H' a vs := sub_l hid_sub (sub_l s.sub h)
  rw [enumD_length]
  refine ⟨⟨vs, h', by rw [r.length]; exact Nat.le_refl _⟩, fun i hi => ?_⟩
  obtain ⟨v, e1, e2⟩ := (RepL.mono s.sub _ _ r).get (i := i) (List.getElem?_eq_getElem hi)
  refine ⟨⟨vs, v, h', e1⟩, fun x H'' y => ?_⟩
  obtain ⟨T, x', rfl, hT, rfl, y⟩ := y
  have := y vs h'
  rw [e1] at this
  cases this
  obtain ⟨p1, p2⟩ := it_pair (i := i) s.cells hT e2
  exact ⟨p1, _, by rw [enumD_get, List.getElem?_eq_getElem hi, Nat.zero_add]; rfl, p2⟩
theorem it_enumT {K : PySem.W.Frag} {φ : Fm} {S : Store} {H : Hp} {a : Addr} {ds : List D} {vs : List V} (h : SqT K (hid φ S H) a vs) (r : RepL K (hid φ S H) ds vs) : ItOk K φ S H (enumD 0 ds) (IteT K a) := fun φ' S' H' s => by
  have h' : SqT K H' a vs := sub_t hid_sub (sub_t s.sub h)
  rw [enumD_length]
  refine ⟨⟨vs, h', by rw [r.length]; exact Nat.le_refl _⟩, fun i hi => ?_⟩
  obtain ⟨v, e1, e2⟩ := (RepL.mono s.sub _ _ r).get (i := i) (List.getElem?_eq_getElem hi)
  refine ⟨⟨vs, v, h', e1⟩, fun x H'' y => ?_⟩
  obtain ⟨T, x', rfl, hT, rfl, y⟩ := y
  have := y vs h'
  rw [e1] at this
  cases this
  obtain ⟨p1, p2⟩ := it_pair (i := i) s.cells hT e2
  exact ⟨p1, _, by rw [enumD_get, List.getElem?_eq_getElem hi, Nat.zero_add]; rfl, p2⟩
theorem wEn {X : Cx} {W : Wy} {e : Expr} {ce : Ev} {p pos tpos : Pos} {elts : List Expr} {kk : Nat} (hm : X.mg "enumerate" = none) (he : PE X e (tE X.K W ce)) (hg : Gl X "enumerate" := by rfl) (hs : noStar e = true := by rfl) : PI X (.Tuple elts kk tpos) (.Call (.Name "enumerate" p) [e] [] pos) (tI X.K W (iEn ce)) := by
  refine PI.imp (pi_enT hg hm (pa_cons he pa_nil (starEach_cons (noStar_ok hs))) (starEach_cons (noStar_ok hs))) fun σ H R h => ?_
  obtain ⟨φ, ρ, S, st, g⟩ := h
  refine tE.first st g fun o S1 v H1 s1 q1 g1 => ?_
  obtain ⟨d, S2, e1, s2, r2, g2⟩ := force_GG (ρ := ρ) q1.w st.cells s1.cells g1
  obtain ⟨ds', e2, g3⟩ := g2.of
  have s12 := s1.trans s2
  simp only [Option.map_eq_some_iff] at e2
  obtain ⟨ds, e2, rfl⟩ := e2
  cases d <;> simp only [itemsOf, Option.some.injEq, reduceCtorEq] at e2
  · subst e2
    simp only [Rep] at r2
    obtain ⟨a, vs, rfl, h1, h2⟩ := r2
    exact ⟨a, rfl, .inr ⟨⟨vs, sub_t hid_sub h1⟩, g3 _ H1 s12 (it_enumT h1 h2)⟩⟩
  · subst e2
    simp only [Rep] at r2
    obtain ⟨a, vs, rfl, h1, h2⟩ := r2
    exact ⟨a, rfl, .inl ⟨⟨vs, .inl (.inl (hid_sub _ _ h1))⟩, g3 _ H1 s12 (it_enum (.inl (.inl h1)) h2)⟩⟩
  · subst e2
    simp only [Rep] at r2
    obtain ⟨a, vs, rfl, h1, h2⟩ := r2
    exact ⟨a, rfl, .inl ⟨⟨vs, sub_l hid_sub h1⟩, g3 _ H1 s12 (it_enum h1 h2)⟩⟩
/-! ### try: rules with plain conditions -/
theorem ss_bad {X : Cx} {W : Wy} {ss : List Stmt} : PSs X ss (tS X.K W sBad) := ⟨fun pins s σ H D I ⟨φ, ρ, S, st, g⟩ => g.elim⟩
/-- a suite that is looked at for these classes alone -/
def suiteOf (cs : List Str) (f : Xc → Sv) (x : Xc) : Sv := if x.cls ∈ cs then f x else sBad
theorem suite_ok {X : Cx} {W : Wy} {ss : List Stmt} {cs : List Str} {f : Xc → Sv} {x : Xc} (h : x.cls ∈ cs → PSs X ss (tS X.K W (f x))) : PSs X ss (tS X.K W (suiteOf cs f x)) := by
  unfold suiteOf
  split
  · rename_i e
    exact h e
  · exact ss_bad
/-- which of the classes meet the clause -/
def mOf (l : List (Str × Bool)) : Str → Option Bool := fun x => l.lookup x
theorem meets_nil {K : PySem.W.Frag} {c : Value} : UI.Meets K (mOf []) c := fun x b e => by cases e
theorem meets_cons {K : PySem.W.Frag} {c : Value} {x : Str} {b : Bool} {l : List (Str × Bool)} (h : PySem.W.exmOne K (.ref (He.ga K x)) c = some b) (hl : UI.Meets K (mOf l) c) : UI.Meets K (mOf ((x, b) :: l)) c := fun y d e => by
  unfold mOf at e
  rw [List.lookup_cons] at e
  cases q : y == x with
  | true =>
    rw [q] at e
    cases e
    rw [eq_of_beq q]
    exact h
  | false =>
    rw [q] at e
    exact hl y d e
end UI
namespace UI
open PySem L2
section
variable {X : Cx} {W : Wy} {x : Str} {p pos pos' : Pos}
theorem wRaise0 (h : (He.Fa.exc x).ok X.K = true) (gC : X.mg x = some (.ref (He.ga X.K x))) (tk : Takes X W.w) (hc : X.calm = true := by rfl) (hg : Gl X x := by rfl) (hdb : (x == ("__debug__" : Str)) = false := by decide) : PS X (.Raise (some (.Call (.Name x p) [] [] pos)) none pos') (tS X.K W (sRaise x [] lNil)) := by
  obtain ⟨h1, h2, h3, h4⟩ := He.exc_ok h
  exact ss_raise0 h1 gC h2 (raises_own h3 h4) hg hdb hc tk
theorem wXf {a : Addr} {oe : Obj} {cls : Value} {d : Option Addr} {pn : List (Addr × Obj)} {n : Str} {i : Nat} {xc : Xc} {f : Str} {cs : List Str} (hx : xc.cls ∈ cs) (T : ∀ c ∈ cs, XfC X.K (He.ga X.K c)) (hno : ∀ c ∈ cs, PySem.W.findIn X.K (.ref (He.ga X.K c)) f = some none) (hz : Zc cls d oe) (hv : ∃ vs, oe.data = .fields vs)
    (hi : X.N[i]? = some n := by rfl) (hvis : Vis X.env.scope n := by first | exact Or.inl rfl | exact Or.inr (Or.inl rfl) | exact Or.inr (Or.inr rfl)) (hd : (n == ("__debug__" : Str)) = false := by decide) (hcd : (n == ("__classdict__" : Str)) = false := by decide) :
    PE (X.suite a ((a, oe) :: pn)) (.Attribute (.Name n p) f pos) (tE X.K ⟨fun _ _ _ _ => False, some ⟨i, a, xc, cls, d⟩⟩ (eXf i xc f)) := se_xf (T _ hx) (hno _ hx) hz hv hi hvis hd hcd
/-- a target = e -/
def sAsg (g : Gv) (e : Ev) : Sv := fun ρ S => liftS ρ ((e ρ S).bind fun o S1 => force o S1) fun d S1 => optS (g d ρ) fun ρ1 => .nx ρ1 S1
theorem wAsg {tg e : Expr} {ce : Ev} {g : Gv} {t : TG} (sg : SG X.K g t) (hg : PG X tg t) (he : PE X e (tE X.K W ce)) (hs : swapsWithSole [tg] e pos.line X.env = pure false := by rfl) (hw : swappedStores [tg] e X.env = pure none := by rfl)
    (h1 : (assignEach [tg] X.env).map (·.2) = [assign tg X.env] := by rfl) : PS X (.Assign [tg] e pos) (tS X.K W (sAsg g ce)) := by
  refine PS.imp (ps_asg he hg hs hw h1) fun D σ H h => ?_
  obtain ⟨φ, ρ, S, st, g0⟩ := h
  refine ⟨φ, ρ, S, st, (GG.ofS st g0).bind.mono fun o S1 g1 v H1 s1 q1 => ?_⟩
  obtain ⟨d, S2, e1, s2, r2, g2⟩ := force_GG0 q1.w st.cells s1.cells (GG.shift s1 g1)
  have s12 := s1.trans s2
  cases e2 : g d ρ with
  | none => rw [e2] at g2; exact g2.elim
  | some ρ1 =>
    rw [e2] at g2
    exact sg.run _ φ ρ ρ1 S2 σ H1 d v _ (st.step s12) r2 e2 fun σ' st' => g2 φ σ' H1 s12.g st'
/-- a, b = e, e' -/
def putL : List Nat → List O → Env → Option Env
  | [], [], ρ => some ρ
  | i :: is, o :: os, ρ => if i < ρ.length then putL is os (ρ.set i (some o)) else none
  | _, _, _ => none
def sPar (is : List Nat) (l : Av) : Sv := fun ρ S => liftS ρ (l ρ S) fun os S1 => optS (putL is os ρ) fun ρ1 => .nx ρ1 S1
theorem wPar2 {i j : Nat} {x y : Str} {a b : Expr} {l : Av} {px py pt : Pos} {kt k2 pt2} (hN : X.N.Nodup) (ha : PA X [a, b] (tA X.K W l)) (hc : X.calm = true := by rfl) (hi : X.N[i]? = some x := by rfl) (hj : X.N[j]? = some y := by rfl) (hij : i ≠ j := by decide)
    (hx : X.env.scope.names.lookup x = some .local := by rfl) (hy : X.env.scope.names.lookup y = some .local := by rfl)
    (hw : swappedStores [.Tuple [.Name x px, .Name y py] kt pt] (.Tuple [a, b] k2 pt2) X.env = pure (some [x, y]) := by rfl)
    (hs : swapsWithSole [.Tuple [.Name x px, .Name y py] kt pt] (.Tuple [a, b] k2 pt2) pos.line X.env = pure false := by rfl) :
    PS X (.Assign [.Tuple [.Name x px, .Name y py] kt pt] (.Tuple [a, b] k2 pt2) pos) (tS X.K W (sPar [i, j] l)) := by
  refine PS.imp (ps_par hc hN hi hj hij hx hy ha hw hs) fun D σ H h => ?_
  obtain ⟨φ, ρ, S, st, g0⟩ := h
  refine ⟨φ, ρ, S, st, (GG.ofS st g0).mono fun os S1 g1 vs H1 s1 q1 => ?_⟩
  cases e : putL [i, j] os ρ with
  | none => rw [e] at g1; exact g1.elim
  | some ρ1 =>
    rw [e] at g1
    cases q1 with
    | nil => cases e
    | cons r1 q1 =>
      simp only [putL] at e
      split at e
      · cases q1 with
        | nil => cases e
        | cons r2 q1 =>
          simp only [putL] at e
          split at e
          · cases q1 with
            | nil =>
              cases e
              exact ⟨_, _, rfl, g1 φ _ H1 s1.g (((st.step s1).put r1).put r2)⟩
            | cons => cases e
          · cases e
      · cases e
theorem wPar3 {i j k : Nat} {x y z : Str} {a b c : Expr} {l : Av} {px py pz pt : Pos} {kt k2 pt2} (hN : X.N.Nodup) (ha : PA X [a, b, c] (tA X.K W l)) (hc : X.calm = true := by rfl) (hi : X.N[i]? = some x := by rfl) (hj : X.N[j]? = some y := by rfl) (hk : X.N[k]? = some z := by rfl) (hij : i ≠ j := by decide) (hik : i ≠ k := by decide) (hjk : j ≠ k := by decide)
    (hx : X.env.scope.names.lookup x = some .local := by rfl) (hy : X.env.scope.names.lookup y = some .local := by rfl) (hz : X.env.scope.names.lookup z = some .local := by rfl)
    (hw : swappedStores [.Tuple [.Name x px, .Name y py, .Name z pz] kt pt] (.Tuple [a, b, c] k2 pt2) X.env = pure (some [x, y, z]) := by rfl)
    (hs : swapsWithSole [.Tuple [.Name x px, .Name y py, .Name z pz] kt pt] (.Tuple [a, b, c] k2 pt2) pos.line X.env = pure false := by rfl) :
    PS X (.Assign [.Tuple [.Name x px, .Name y py, .Name z pz] kt pt] (.Tuple [a, b, c] k2 pt2) pos) (tS X.K W (sPar [i, j, k] l)) := by
  refine PS.imp (ps_par3 hc hN hi hj hk hij hik hjk hx hy hz ha hw hs) fun D σ H h => ?_
  obtain ⟨φ, ρ, S, st, g0⟩ := h
  refine ⟨φ, ρ, S, st, (GG.ofS st g0).mono fun os S1 g1 vs H1 s1 q1 => ?_⟩
  cases e : putL [i, j, k] os ρ with
  | none => rw [e] at g1; exact g1.elim
  | some ρ1 =>
    rw [e] at g1
    cases q1 with
    | nil => cases e
    | cons r1 q1 =>
      simp only [putL] at e
      split at e
      · cases q1 with
        | nil => cases e
        | cons r2 q1 =>
          simp only [putL] at e
          split at e
          · cases q1 with
            | nil => cases e
            | cons r3 q1 =>
              simp only [putL] at e
              split at e
              · cases q1 with
                | nil =>
                  cases e
                  exact ⟨_, _, _, rfl, g1 φ _ H1 s1.g ((((st.step s1).put r1).put r2).put r3)⟩
                | cons => cases e
              · cases e
          · cases e
      · cases e
end
end UI
namespace UI
open PySem L2
theorem rep_ints {K : PySem.W.Frag} {H : Hp} : ∀ ns : List Int, RepL K H (ns.map D.int) (ns.map V.int)
  | [] => .nil
  | n :: ns => .cons (by simp only [Rep]) (rep_ints ns)
/-- the law's def says True: the promise that the head wants -/
theorem end_sp {K : PySem.W.Frag} {F : List O → Store → Out O} {H : Hp} {a : Addr} {ns : List Int} (h : ∃ S, F [.val (.wls (ns.map .int))] [] = .ok (.val (.bl true)) S) (hS : SqL K H a (ns.map V.int)) : spF K F 1 [.ref a] H (fun v _ => v = .bl true) fun _ _ _ => False := by
  obtain ⟨S, e⟩ := h
  have no : ∀ (S : Store) (b : Addr), ¬ ownA ⟨[], fun _ => False⟩ S b := fun S b z => z.elim id fun ⟨r, e, _⟩ => by simp at e
  have sb : Sub H (hid ⟨[], fun _ => False⟩ [] H) := fun b o e => hid_of (no [] b) e
  refine ⟨rfl, ⟨[], fun _ => False⟩, [], [.val (.wls (ns.map .int))], ⟨rfl, List.nodup_nil, fun _ z => z.elim, fun r b e => by simp at e, fun r b e => by simp at e⟩, .cons ?_ .nil, ?_⟩
  · show Rep K _ (.wls (ns.map .int)) (.ref a)
    simp only [Rep]
    exact ⟨a, _, rfl, sub_l sb hS, rep_ints ns⟩
  · rw [e]
    intro v H' s q
    have q : Rep K (hid ⟨[], fun _ => False⟩ S H') (.bl true) v := q
    simpa only [Rep] using q
theorem no_CX {P : Program} {w : World} (H : Hp) (s : Shared) (e : Value) (s' : Shared) : L2.CX P w [] H s (fun _ _ _ => False) e s' → False := fun ⟨_, _, _, _, _, _, _, _, _, _, _, _, z⟩ => z
/-- the way from the row to the law's own outcome -/
theorem walk_law {l : PySem.W.OpenLaw} {n k : Nat} {q : Program} {loose : List Str} {XP : (Str → Option Value) → Heap → Prop} {YP : World → Heap → Prop} {d : DefRec} {x : Str} {F0 : List O → Store → Out O}
    (most : l.most = some n) (fits : n ≤ sizeLine) (plain : d.params.defaults = []) (room : Room k callerA)
    (known : ∀ (w : World) (mg : Str → Option Value) (f : Addr) (h : Heap), YP w h → h.Ns mainGlobals mg → mg d.name = some (.ref f) →
      ∃ (K : PySem.W.Frag) (fd : FuncData), K.In h ∧ (∀ (s : Shared) (v : Value), BindsTo s fd ⟨[v], []⟩ [(x, v)]) ∧ ∀ (P : Program) (base : Heap), FnOk P w K mg base (L2.CX P w) k f fd [x] (spF K F0 1))
    (says : ∀ ns : List Int, ns.length ≤ n → (∀ z ∈ ns, Builtin.Int.intBits z ≤ 1048576) → ∃ S, F0 [.val (.wls (ns.map .int))] [] = .ok (.val (.bl true)) S) : PySem.W.WalkO q loose XP YP l.row.toRowW d [] (fun f us => PySem.call f us) := by
  apply Att.attach_callB most plain
  intro w s₀ s₁ mg mb f o pm cd doc a vs ns G Y _ _ _ at_ obj numbers short bits gens
  obtain ⟨K, fd, inK, binds, ok⟩ := known w mg f _ Y G.T.g at_
  exact law_call (sp := spF K F0 1) inK G.T.g G.T.b G.T.builtins G.T.nolimit gens obj numbers (Nat.le_trans short fits) room (fun base _ _ => ok l.prog base) binds (fun H _ hS => end_sp (says ns short bits) hS) fun H e s' => no_CX H s₁ e s'
end UI
namespace UI
open PySem
/-! ### running -/
section
variable {α β : Type} {ρ : Env} {S : Store}
@[simp] theorem x_bind_ok {a : α} {f : α → Store → Out β} : (Out.ok a S).bind f = f a S := (rfl)
@[simp] theorem x_bind_exc {x : Xc} {f : α → Store → Out β} : (Out.exc x S : Out α).bind f = .exc x S := (rfl)
@[simp] theorem x_bind_bad {f : α → Store → Out β} : (Out.bad : Out α).bind f = .bad := (rfl)
@[simp] theorem x_of_some {a : α} : Out.of (some a) S = .ok a S := (rfl)
@[simp] theorem x_of_none : (Out.of none S : Out α) = .bad := (rfl)
@[simp] theorem x_slot {i : Nat} : eSlot i ρ S = match ρ[i]? with
  | some (some (.val d)) => .ok (.val d) S
  | some (some (.ptr r)) => .ok (.ptr r) S
  | _ => .bad := (rfl)
@[simp] theorem x_C {d : D} : eC d ρ S = .ok (.val d) S := (rfl)
@[simp] theorem x_look_val {d : D} : look (.val d) S = some d := (rfl)
@[simp] theorem x_look_fr {ds : List D} : look (.fr ds) S = some (.lst ds) := (rfl)
@[simp] theorem x_look_ptr {r : Nat} : look (.ptr r) S = cellD S[r]? := (rfl)
@[simp] theorem x_cell_lst {ds : List D} : cellD (some (.lst ds)) = some (.lst ds) := (rfl)
@[simp] theorem x_cell_frz {ds : List D} : cellD (some (.frz ds)) = some (.lst ds) := (rfl)
@[simp] theorem x_force_val {d : D} : force (.val d) S = .ok d S := (rfl)
@[simp] theorem x_force_fr {ds : List D} : force (.fr ds) S = .ok (.lst ds) S := (rfl)
@[simp] theorem x_force_ptr {r : Nat} : force (.ptr r) S = forceC S r S[r]? := (rfl)
@[simp] theorem x_forceC_lst {r : Nat} {ds : List D} : forceC S r (some (.lst ds)) = .ok (.lst ds) (S.set r (.frz ds)) := (rfl)
@[simp] theorem x_forceC_frz {r : Nat} {ds : List D} : forceC S r (some (.frz ds)) = .ok (.lst ds) S := (rfl)
@[simp] theorem x_norm_val {d : D} : norm (.val d) = .val d := (rfl)
@[simp] theorem x_norm_fr {ds : List D} : norm (.fr ds) = .val (.lst ds) := (rfl)
@[simp] theorem x_norm_ptr {r : Nat} : norm (.ptr r) = .ptr r := (rfl)
@[simp] theorem x_look2 {f : D → D → Option α} {x y : O} : look2 f x y S = (look x S).bind fun d => (look y S).bind fun e => f d e := (rfl)
@[simp] theorem x_bin {op : Operator} {a b : Ev} : eBin op a b ρ S = (a ρ S).bind fun x S1 => (b ρ S1).bind fun y S2 => .of (look2 (binD op) x y S2) S2 := (rfl)
@[simp] theorem x_un {op : UnaryOp} {a : Ev} : eUn op a ρ S = (a ρ S).bind fun x S1 => .of ((look x S1).bind (unD op)) S1 := (rfl)
@[simp] theorem x_cmp {op : CmpOp} {a b : Ev} : tCmp op a b ρ S = (a ρ S).bind fun x S1 => (b ρ S1).bind fun y S2 => .of (look2 (cmpD op) x y S2) S2 := (rfl)
@[simp] theorem x_cmp2 {op op' : CmpOp} {a b c : Ev} : tCmp2 op op' a b c ρ S = (a ρ S).bind fun x S1 => (b ρ S1).bind fun y S2 => (Out.of (look2 (cmpD op) x y S2) S2).bind fun k S3 => if k = true then (c ρ S3).bind fun z S4 => .of (look2 (cmpD op') y z S4) S4 else .ok false S3 := (rfl)
@[simp] theorem x_eB {t : Tv} : eB t ρ S = (t ρ S).bind fun b S1 => .ok (.val (.bl b)) S1 := (rfl)
@[simp] theorem x_eAnd {a b : Ev} : eAnd a b ρ S = (a ρ S).bind fun x S1 => (Out.of ((look x S1).bind blD) S1).bind fun k S2 => if k = true then b ρ S2 else .ok (.val (.bl false)) S2 := (rfl)
@[simp] theorem x_eOr {a b : Ev} : eOr a b ρ S = (a ρ S).bind fun x S1 => (Out.of ((look x S1).bind blD) S1).bind fun k S2 => if k = true then .ok (.val (.bl true)) S2 else b ρ S2 := (rfl)
@[simp] theorem x_eNot {a : Ev} : eNot a ρ S = (a ρ S).bind fun x S1 => .of (((look x S1).bind truD).map fun k => .val (.bl (!k))) S1 := (rfl)
@[simp] theorem x_tVal {a : Ev} : tVal a ρ S = (a ρ S).bind fun x S1 => .of ((look x S1).bind truD) S1 := (rfl)
@[simp] theorem x_tAnd {a b : Tv} : tAnd a b ρ S = (a ρ S).bind fun k S1 => if k = true then b ρ S1 else .ok false S1 := (rfl)
@[simp] theorem x_tOr {a b : Tv} : tOr a b ρ S = (a ρ S).bind fun k S1 => if k = true then .ok true S1 else b ρ S1 := (rfl)
@[simp] theorem x_tNot {a : Tv} : tNot a ρ S = (a ρ S).bind fun k S1 => .ok (!k) S1 := (rfl)
@[simp] theorem x_tYes : tYes ρ S = .ok true S := (rfl)
@[simp] theorem x_eIf {t : Tv} {a b : Ev} : eIf t a b ρ S = (t ρ S).bind fun k S1 => if k = true then a ρ S1 else b ρ S1 := (rfl)
@[simp] theorem x_lNil : lNil ρ S = .ok [] S := (rfl)
@[simp] theorem x_lCons {a : Ev} {l : Lv} : lCons a l ρ S = (a ρ S).bind fun x S1 => (force x S1).bind fun d S2 => (l ρ S2).bind fun ds S3 => .ok (d :: ds) S3 := (rfl)
@[simp] theorem x_eTup {l : Lv} : eTup l ρ S = (l ρ S).bind fun ds S1 => if ds.length ≤ sizeLine then .ok (.val (.tup ds)) S1 else .bad := (rfl)
@[simp] theorem x_eLst {l : Lv} : eLst l ρ S = (l ρ S).bind fun ds S1 => if ds.length ≤ sizeLine then .ok (.fr ds) S1 else .bad := (rfl)
@[simp] theorem x_aNil : aNil ρ S = .ok [] S := (rfl)
@[simp] theorem x_aCons {a : Ev} {l : Av} : aCons a l ρ S = (a ρ S).bind fun x S1 => (l ρ S1).bind fun xs S3 => .ok (norm x :: xs) S3 := (rfl)
@[simp] theorem x_eIx {a b : Ev} : eIx a b ρ S = (a ρ S).bind fun x S1 => (b ρ S1).bind fun y S2 => .of ((look2 ixD x y S2).map .val) S2 := (rfl)
@[simp] theorem x_pNo : pNo ρ S = .ok none S := (rfl)
@[simp] theorem x_pSome {a : Ev} : pSome a ρ S = (a ρ S).bind fun x S1 => .of (((look x S1).bind intD).map some) S1 := (rfl)
@[simp] theorem x_eSl {a : Ev} {lo hi : Pv} : eSl a lo hi ρ S = (a ρ S).bind fun x S1 => (lo ρ S1).bind fun l S2 => (hi ρ S2).bind fun h S3 => .of ((look x S3).bind fun d => slD d l h) S3 := (rfl)
@[simp] theorem x_callB {g : List D → Option O} {l : Av} : eCallB g l ρ S = (l ρ S).bind fun os S1 => .of ((lookAll os S1).bind g) S1 := (rfl)
@[simp] theorem x_call {F : List O → Store → Out O} {l : Av} : eCall F l ρ S = (l ρ S).bind fun os S1 => F os S1 := (rfl)
@[simp] theorem x_lookAll_nil : lookAll [] S = some [] := (rfl)
@[simp] theorem x_lookAll_cons {o : O} {os : List O} : lookAll (o :: os) S = (look o S).bind fun d => (lookAll os S).map (d :: ·) := (rfl)
/-! statements -/
@[simp] theorem x_lift_ok {a : α} {f : α → Store → SO} : liftS ρ (.ok a S) f = f a S := (rfl)
@[simp] theorem x_lift_exc {x : Xc} {f : α → Store → SO} : liftS ρ (.exc x S) f = .exc x ρ S := (rfl)
@[simp] theorem x_lift_bad {f : α → Store → SO} : liftS ρ .bad f = .bad := (rfl)
@[simp] theorem x_seq_nx {f : Env → Store → SO} : (SO.nx ρ S).seq f = f ρ S := (rfl)
@[simp] theorem x_seq_ret {o : O} {f : Env → Store → SO} : (SO.ret o S).seq f = .ret o S := (rfl)
@[simp] theorem x_seq_brk {f : Env → Store → SO} : (SO.brk ρ S).seq f = .brk ρ S := (rfl)
@[simp] theorem x_seq_ct {f : Env → Store → SO} : (SO.ct ρ S).seq f = .ct ρ S := (rfl)
@[simp] theorem x_seq_exc {x : Xc} {f : Env → Store → SO} : (SO.exc x ρ S).seq f = .exc x ρ S := (rfl)
@[simp] theorem x_seq_bad {f : Env → Store → SO} : (SO.bad).seq f = .bad := (rfl)
@[simp] theorem x_sSeq {a b : Sv} : sSeq a b ρ S = (a ρ S).seq b := (rfl)
@[simp] theorem x_sNext : sNext ρ S = .nx ρ S := (rfl)
@[simp] theorem x_sBrk : sBrk ρ S = .brk ρ S := (rfl)
@[simp] theorem x_sCt : sCt ρ S = .ct ρ S := (rfl)
@[simp] theorem x_sBad : sBad ρ S = .bad := (rfl)
@[simp] theorem x_sIf {t : Tv} {a b : Sv} : sIf t a b ρ S = liftS ρ (t ρ S) fun k S1 => if k = true then a ρ S1 else b ρ S1 := (rfl)
@[simp] theorem x_sRet {e : Ev} : sRet e ρ S = liftS ρ (e ρ S) fun o S1 => .ret o S1 := (rfl)
@[simp] theorem x_sRetN : sRetN ρ S = .ret (.val .non) S := (rfl)
@[simp] theorem x_sDrop {e : Ev} : sDrop e ρ S = liftS ρ (e ρ S) fun _ S1 => .nx ρ S1 := (rfl)
@[simp] theorem x_sSet {i : Nat} {e : Ev} : sSet i e ρ S = liftS ρ (e ρ S) fun o S1 => if i < ρ.length then .nx (ρ.set i (some (norm o))) S1 else .bad := (rfl)
@[simp] theorem x_sSetM {i : Nat} {e : Ev} : sSetM i e ρ S = liftS ρ (e ρ S) fun o S1 => if i < ρ.length then (match o with
  | .fr ds => .nx (ρ.set i (some (.ptr S1.length))) (S1 ++ [.lst ds])
  | o => .nx (ρ.set i (some o)) S1) else .bad := (rfl)
@[simp] theorem x_ownAt {i : Nat} : ownAt i ρ S = match ρ[i]? with
  | some (some (.ptr r)) => match S[r]? with
    | some (.lst ds) => some (r, ds)
    | _ => none
  | _ => none := (rfl)
@[simp] theorem x_sApp {i : Nat} {e : Ev} : sApp i e ρ S = if (ownAt i ρ S).isSome = true then liftS ρ ((e ρ S).bind fun o S1 => force o S1) fun d S1 => match ownAt i ρ S1 with
  | some (r, ds) => if ds.length < sizeLine then .nx ρ (S1.set r (.lst (ds ++ [d]))) else .bad
  | none => .bad else .bad := (rfl)
@[simp] theorem x_sSetIx {i : Nat} {a e : Ev} : sSetIx i a e ρ S = if (ownAt i ρ S).isSome = true then liftS ρ ((e ρ S).bind fun o S1 => (force o S1).bind fun d S2 => (a ρ S2).bind fun y S3 => (Out.of ((look y S3).bind intD) S3).bind fun k S4 => .ok (d, k) S4) fun p S1 => match ownAt i ρ S1 with
  | some (r, ds) => match L2.ixN ds.length p.2 with
    | some j => .nx ρ (S1.set r (.lst (ds.set j p.1)))
    | none => .bad
  | none => .bad else .bad := (rfl)
@[simp] theorem x_gNm {i : Nat} {d : D} : gNm i d ρ = if i < ρ.length then some (ρ.set i (some (.val d))) else none := (rfl)
@[simp] theorem x_gTp {is : List Nat} {ds : List D} : gTp is (.tup ds) ρ = gNms is ds ρ := (rfl)
@[simp] theorem x_gNms_nil : gNms [] [] ρ = some ρ := (rfl)
@[simp] theorem x_gNms_cons {i : Nat} {is : List Nat} {d : D} {ds : List D} : gNms (i :: is) (d :: ds) ρ = (gNm i d ρ).bind (gNms is ds) := (rfl)
@[simp] theorem x_items_lst {ds : List D} : itemsOf (.lst ds) = some ds := (rfl)
@[simp] theorem x_items_wls {ds : List D} : itemsOf (.wls ds) = some ds := (rfl)
@[simp] theorem x_items_tup {ds : List D} : itemsOf (.tup ds) = some ds := (rfl)
@[simp] theorem x_iVal {e : Ev} : iVal e ρ S = (e ρ S).bind fun o S1 => (force o S1).bind fun d S2 => .of (itemsS d) S2 := (rfl)
@[simp] theorem x_itS_lst {ds : List D} : itemsS (.lst ds) = some ds := (rfl)
@[simp] theorem x_itS_wls {ds : List D} : itemsS (.wls ds) = some ds := (rfl)
@[simp] theorem x_itS_tup {ds : List D} : itemsS (.tup ds) = some ds := (rfl)
@[simp] theorem x_itS_str {s : Str} : itemsS (.str s) = some (s.cps.toList.map fun c => .str ⟨#[c]⟩) := (rfl)
@[simp] theorem x_iEn {e : Ev} : iEn e ρ S = (e ρ S).bind fun o S1 => (force o S1).bind fun d S2 => .of ((itemsOf d).map (enumD 0)) S2 := (rfl)
@[simp] theorem x_iRng1 {e : Ev} : iRng1 e ρ S = (e ρ S).bind fun o S1 => (Out.of ((look o S1).bind intD) S1).bind fun j S2 => if -(2 ^ 62) ≤ j ∧ j < 2 ^ 62 then .ok (rngD 0 j.toNat) S2 else .bad := (rfl)
@[simp] theorem x_iRng2 {a b : Ev} : iRng2 a b ρ S = (a ρ S).bind fun o S1 => (b ρ S1).bind fun o2 S2 => (Out.of ((look o S2).bind intD) S2).bind fun i S3 => (Out.of ((look o2 S3).bind intD) S3).bind fun j S4 => if -(2 ^ 62) ≤ i ∧ i < 2 ^ 62 ∧ -(2 ^ 62) ≤ j ∧ j < 2 ^ 62 then .ok (rngD i (j - i).toNat) S4 else .bad := (rfl)
@[simp] theorem x_loop_nx {k : Env → Store → SO} : loopK (.nx ρ S) k = k ρ S := (rfl)
@[simp] theorem x_loop_ct {k : Env → Store → SO} : loopK (.ct ρ S) k = k ρ S := (rfl)
@[simp] theorem x_loop_brk {k : Env → Store → SO} : loopK (.brk ρ S) k = .nx ρ S := (rfl)
@[simp] theorem x_loop_ret {o : O} {k : Env → Store → SO} : loopK (.ret o S) k = .ret o S := (rfl)
@[simp] theorem x_loop_exc {x : Xc} {k : Env → Store → SO} : loopK (.exc x ρ S) k = .exc x ρ S := (rfl)
@[simp] theorem x_opt_some {k : Env → SO} : optS (some ρ) k = k ρ := (rfl)
@[simp] theorem x_opt_none {k : Env → SO} : optS none k = .bad := (rfl)
@[simp] theorem x_for_nil {g : Gv} {b : Sv} : forI g b [] ρ S = .nx ρ S := (rfl)
theorem x_for_cons {g : Gv} {b : Sv} {d : D} {ds : List D} : forI g b (d :: ds) ρ S = optS (g d ρ) fun ρ1 => loopK (b ρ1 S) (forI g b ds) := (rfl)
@[simp] theorem x_sFor {g : Gv} {it : Lv} {b : Sv} : sFor g it b ρ S = liftS ρ (it ρ S) fun ds S1 => forI g b ds ρ S1 := (rfl)
@[simp] theorem x_comp_nil {g : Gv} {t : Tv} {e : Ev} : compI g t e ρ [] S = .ok [] S := (rfl)
theorem x_comp_cons {g : Gv} {t : Tv} {e : Ev} {d : D} {ds : List D} : compI g t e ρ (d :: ds) S = match g d ρ with
    | none => .bad
    | some ρ1 => (t ρ1 S).bind fun k S1 => if k = true then (e ρ1 S1).bind fun o S2 => (force o S2).bind fun x S3 => (compI g t e ρ ds S3).bind fun xs S4 => .ok (x :: xs) S4 else compI g t e ρ ds S1 := (rfl)
@[simp] theorem x_noX_ok {a : α} : noX (.ok a S) = .ok a S := (rfl)
@[simp] theorem x_wipe_nil : wipeE ρ [] = ρ := (rfl)
@[simp] theorem x_wipe_cons {v : Nat} {vs : List Nat} : wipeE ρ (v :: vs) = (wipeE ρ vs).set v none := (rfl)
@[simp] theorem x_eComp {own : List Nat} {g : Gv} {it : Lv} {t : Tv} {e : Ev} : eComp own g it t e ρ S = (it ρ S).bind fun ds S1 => if ds.length < sizeLine then (noX (compI g t e (wipeE ρ own) ds S1)).bind fun xs S2 => .ok (.fr xs) S2 else .bad := (rfl)
@[simp] theorem x_end_val {n : Nat} {d : D} : endF n (.ret (.val d) S) = .ok (.val d) (S.take n) := (rfl)
@[simp] theorem x_end_fr {n : Nat} {ds : List D} : endF n (.ret (.fr ds) S) = .ok (.fr ds) (S.take n) := (rfl)
@[simp] theorem x_end_ptr {n r : Nat} : endF n (.ret (.ptr r) S) = if r < n then .ok (.ptr r) (S.take n) else (match S[r]? with
    | some (.lst ds) => .ok (.fr ds) (S.take n)
    | some (.frz ds) => .ok (.val (.lst ds)) (S.take n)
    | none => .bad) := (rfl)
@[simp] theorem x_end_nx {n : Nat} : endF n (.nx ρ S) = .ok (.val .non) (S.take n) := (rfl)
@[simp] theorem x_end_exc {n : Nat} {x : Xc} : endF n (.exc x ρ S) = .exc x (S.take n) := (rfl)
@[simp] theorem x_runF {m : Nat} {b : Sv} {os : List O} : runF m b os S = endF S.length (b (os.map some ++ List.replicate (m - os.length) none) S) := (rfl)
theorem x_mkF {n m : Nat} {c : Sv} {os : List O} (h : os.length = n := by rfl) : mkF n m c os S = endF S.length (c (os.map some ++ List.replicate (m - os.length) none) S) := by
  unfold mkF
  rw [if_pos h]
  rfl
@[simp] theorem x_sRaise {nm : Str} {fs : List Str} {l : Lv} : sRaise nm fs l ρ S = liftS ρ (l ρ S) fun ds S1 => if ds.length = fs.length then .exc ⟨nm, fs.zip ds⟩ ρ S1 else .bad := (rfl)
@[simp] theorem x_sTry {m : Str → Option Bool} {b : Sv} {f : Xc → Sv} : sTry m b f ρ S = match b ρ S with
  | .exc x ρ1 S1 => match m x.cls with
    | some true => noXS (f x ρ1 S1)
    | some false => .exc x ρ1 S1
    | none => .bad
  | o => o := (rfl)
@[simp] theorem x_sTryAs {m : Str → Option Bool} {i : Nat} {b : Sv} {f : Xc → Sv} : sTryAs m i b f ρ S = match b ρ S with
  | .exc x ρ1 S1 => match m x.cls with
    | some true => unsetS i (noXS (f x (ρ1.set i none) S1))
    | some false => .exc x ρ1 S1
    | none => .bad
  | o => o := (rfl)
@[simp] theorem x_noXS_ret {o : O} : noXS (.ret o S) = .ret o S := (rfl)
@[simp] theorem x_noXS_nx : noXS (.nx ρ S) = .nx ρ S := (rfl)
@[simp] theorem x_unset_ret {i : Nat} {o : O} : unsetS i (.ret o S) = .ret o S := (rfl)
@[simp] theorem x_unset_nx {i : Nat} : unsetS i (.nx ρ S) = .nx (ρ.set i none) S := (rfl)
@[simp] theorem x_eXf {i : Nat} {x : Xc} {f : Str} : eXf i x f ρ S = match ρ[i]? with
  | some none => .of ((x.fs.lookup f).map .val) S
  | _ => .bad := (rfl)
end
/-! ### values -/
@[simp] theorem x_add {i j : Int} : binD .Add (.int i) (.int j) = some (.val (.int (i + j))) := by rw [binD_eq]; rfl
@[simp] theorem x_addL {xs ys : List D} : binD .Add (.lst xs) (.lst ys) = if xs.length + ys.length ≤ sizeLine then some (.fr (xs ++ ys)) else none := by rw [binD_eq]; rfl
@[simp] theorem x_addT {xs ys : List D} : binD .Add (.tup xs) (.tup ys) = if xs.length + ys.length ≤ sizeLine then some (.val (.tup (xs ++ ys))) else none := by rw [binD_eq]; rfl
@[simp] theorem x_addS {x y : Str} : binD .Add (.str x) (.str y) = if x.length + y.length ≤ sizeLine then some (.val (.str (x ++ y))) else none := by rw [binD_eq]; rfl
@[simp] theorem x_sub {i j : Int} : binD .Sub (.int i) (.int j) = some (.val (.int (i - j))) := by rw [binD_eq]; rfl
theorem x_mul {i j : Int} (h : (-(2 ^ 64) < i ∧ i < 2 ^ 64) ∨ (-(2 ^ 64) < j ∧ j < 2 ^ 64) ∨ i.natAbs.log2 + j.natAbs.log2 < 1000000) : binD .Mult (.int i) (.int j) = some (.val (.int (i * j))) := by rw [binD_eq]; exact if_pos h
theorem x_mulL {xs : List D} {k : Int} : binD .Mult (.lst xs) (.int k) = if -(2 ^ 63) ≤ k ∧ k < 2 ^ 63 ∧ xs.length * k.toNat ≤ sizeLine then some (.fr (List.replicate k.toNat xs).flatten) else none := by rw [binD_eq]; rfl
theorem x_mulT {xs : List D} {k : Int} : binD .Mult (.tup xs) (.int k) = if xs ≠ [] ∧ 2 ≤ k ∧ k ≤ 1000 ∧ xs.length ≤ 1000 then some (.val (.tup (List.replicate k.toNat xs).flatten)) else none := by rw [binD_eq]; rfl
theorem x_div {i j : Int} (h : 0 < j) (h2 : j < 2 ^ 64) : binD .FloorDiv (.int i) (.int j) = some (.val (.int (i / j))) := by
  rw [binD_eq]
  exact if_pos ⟨h, by
    have k : j.natAbs < 2 ^ 64 := by omega
    exact (Nat.log2_lt (by omega)).mpr (Nat.lt_of_lt_of_le k (Nat.pow_le_pow_right (by decide) (by decide)))⟩
theorem x_mod {i j : Int} (h : 0 < j) : binD .Mod (.int i) (.int j) = some (.val (.int (i % j))) := by rw [binD_eq]; exact if_pos h
theorem x_shl {i j : Int} (h : 0 ≤ j ∧ (Builtin.Int.intBits i : Int) + j ≤ 2 ^ 27) : binD .LShift (.int i) (.int j) = some (.val (.int (i * 2 ^ j.toNat))) := by rw [binD_eq]; exact if_pos h
theorem x_shr {i j : Int} (h : 0 ≤ j) : binD .RShift (.int i) (.int j) = some (.val (.int (i / 2 ^ j.toNat))) := by rw [binD_eq]; exact if_pos h
@[simp] theorem x_and {i j : Int} : binD .BitAnd (.int i) (.int j) = some (.val (.int (Builtin.bitAnd i j))) := by rw [binD_eq]; rfl
@[simp] theorem x_or {i j : Int} : binD .BitOr (.int i) (.int j) = some (.val (.int (Builtin.bitOr i j))) := by rw [binD_eq]; rfl
@[simp] theorem x_xor {i j : Int} : binD .BitXor (.int i) (.int j) = some (.val (.int (Builtin.bitXor i j))) := by rw [binD_eq]; rfl
@[simp] theorem x_neg {i : Int} : unD .USub (.int i) = some (.val (.int (-i))) := (rfl)
@[simp] theorem x_lt {i j : Int} : cmpD .Lt (.int i) (.int j) = some (decide (i < j)) := (rfl)
@[simp] theorem x_le {i j : Int} : cmpD .LtE (.int i) (.int j) = some (decide (i ≤ j)) := (rfl)
@[simp] theorem x_gt {i j : Int} : cmpD .Gt (.int i) (.int j) = some (decide (j < i)) := (rfl)
@[simp] theorem x_ge {i j : Int} : cmpD .GtE (.int i) (.int j) = some (decide (j ≤ i)) := (rfl)
@[simp] theorem x_eq {d e : D} : cmpD .Eq d e = eqD d e := (rfl)
@[simp] theorem x_ne {d e : D} : cmpD .NotEq d e = (eqD d e).map (!·) := (rfl)
@[simp] theorem x_in {d e : D} : cmpD .In d e = inD d e := (rfl)
@[simp] theorem x_notin {d e : D} : cmpD .NotIn d e = (inD d e).map (!·) := (rfl)
@[simp] theorem x_isnon {d : D} : cmpD .Is d .non = some (isNonD d) := by cases d <;> rfl
@[simp] theorem x_isnotnon {d : D} : cmpD .IsNot d .non = some (!isNonD d) := by cases d <;> rfl
@[simp] theorem x_eqI {i j : Int} : eqD (.int i) (.int j) = some (decide (i = j)) := by
  have h : ∀ k : Int, SeqAt.shaped (.int k) = true := fun _ => rfl
  simp only [eqD, toPy, h, Bool.and_self, if_true, PyData.eqv]
  rfl
theorem x_shS (x : Str) : SeqAt.shaped (.str x) = PyData.strOk x := by
  simp [SeqAt.shaped, PyData.canLay0, PyData.depth]
theorem x_eqS {x y : Str} (hx : PyData.strOk x = true) (hy : PyData.strOk y = true) : eqD (.str x) (.str y) = some (decide (x = y)) := by
  simp only [eqD, toPy, x_shS, hx, hy, Bool.and_self, if_true, PyData.eqv]
  rfl
@[simp] theorem x_tru_bl {b : Bool} : truD (.bl b) = some b := (rfl)
@[simp] theorem x_tru_int {i : Int} : truD (.int i) = some (i != 0) := (rfl)
@[simp] theorem x_tru_non : truD .non = some false := (rfl)
@[simp] theorem x_tru_lst {ds : List D} : truD (.lst ds) = some (!ds.isEmpty) := (rfl)
@[simp] theorem x_tru_tup {ds : List D} : truD (.tup ds) = some (!ds.isEmpty) := (rfl)
@[simp] theorem x_blD {b : Bool} : blD (.bl b) = some b := (rfl)
@[simp] theorem x_intD {i : Int} : intD (.int i) = some i := (rfl)
@[simp] theorem x_ixL {ds : List D} {i : Int} : ixD (.lst ds) (.int i) = atD ds i := (rfl)
@[simp] theorem x_ixT {ds : List D} {i : Int} : ixD (.tup ds) (.int i) = atD ds i := (rfl)
@[simp] theorem x_ixW {ds : List D} {i : Int} : ixD (.wls ds) (.int i) = atD ds i := (rfl)
theorem x_at {ds : List D} {i : Nat} {d : D} (h : ds[i]? = some d) : atD ds (i : Int) = some d := by
  have hl := (List.getElem?_eq_some_iff.mp h).1
  unfold atD L2.ixN
  rw [if_pos (by omega), if_pos (by omega)]
  simpa using h
@[simp] theorem x_at0 {d : D} {ds : List D} : atD (d :: ds) 0 = some d := x_at (i := 0) rfl
@[simp] theorem x_at1 {d e : D} {ds : List D} : atD (d :: e :: ds) 1 = some e := x_at (i := 1) rfl
@[simp] theorem x_at2 {d e f : D} {ds : List D} : atD (d :: e :: f :: ds) 2 = some f := x_at (i := 2) rfl
@[simp] theorem x_at3 {d e f g : D} {ds : List D} : atD (d :: e :: f :: g :: ds) 3 = some g := x_at (i := 3) rfl
@[simp] theorem x_len_lst {ds : List D} : lenB [.lst ds] = some (.val (.int ds.length)) := (rfl)
@[simp] theorem x_len_wls {ds : List D} : lenB [.wls ds] = some (.val (.int ds.length)) := (rfl)
@[simp] theorem x_len_tup {ds : List D} : lenB [.tup ds] = some (.val (.int ds.length)) := (rfl)
@[simp] theorem x_int_int {i : Int} : intB [.int i] = some (.val (.int i)) := (rfl)
@[simp] theorem x_int_bl {b : Bool} : intB [.bl b] = some (.val (.int (if b then 1 else 0))) := (rfl)
@[simp] theorem x_abs {i : Int} : absB [.int i] = some (.val (.int (if i < 0 then -i else i))) := (rfl)
@[simp] theorem x_tuple_lst {ds : List D} : tupleB [.lst ds] = some (.val (.tup ds)) := (rfl)
@[simp] theorem x_tuple_wls {ds : List D} : tupleB [.wls ds] = some (.val (.tup ds)) := (rfl)
@[simp] theorem x_tuple_tup {ds : List D} : tupleB [.tup ds] = some (.val (.tup ds)) := (rfl)
@[simp] theorem x_list_lst {ds : List D} : listB [.lst ds] = some (.fr ds) := (rfl)
@[simp] theorem x_list_tup {ds : List D} : listB [.tup ds] = some (.fr ds) := (rfl)
@[simp] theorem x_max {i j : Int} : max2B [.int i, .int j] = some (.val (.int (if j > i then j else i))) := (rfl)
@[simp] theorem x_min {i j : Int} : min2B [.int i, .int j] = some (.val (.int (if j < i then j else i))) := (rfl)
@[simp] theorem x_isi {d : D} {c : String} : isiB [d, .ty c] = (tyD d).bind fun t => (isiD t c).map fun b => .val (.bl b) := (rfl)
@[simp] theorem x_ty_non : tyD .non = some "NoneType" := (rfl)
@[simp] theorem x_ty_bl {b : Bool} : tyD (.bl b) = some "bool" := (rfl)
@[simp] theorem x_ty_int {i : Int} : tyD (.int i) = some "int" := (rfl)
@[simp] theorem x_ty_str {x : Str} : tyD (.str x) = some "str" := (rfl)
@[simp] theorem x_ty_tup {ds : List D} : tyD (.tup ds) = some "tuple" := (rfl)
@[simp] theorem x_ty_lst {ds : List D} : tyD (.lst ds) = some "list" := (rfl)
@[simp] theorem x_ty_wls {ds : List D} : tyD (.wls ds) = some "list" := (rfl)
@[simp] theorem k_NN : isiD "NoneType" "int" = some false := by decide +kernel
@[simp] theorem k_Nb : isiD "NoneType" "bool" = some false := by decide +kernel
@[simp] theorem k_Ns : isiD "NoneType" "str" = some false := by decide +kernel
@[simp] theorem k_Nl : isiD "NoneType" "list" = some false := by decide +kernel
@[simp] theorem k_Nt : isiD "NoneType" "tuple" = some false := by decide +kernel
@[simp] theorem k_bi : isiD "bool" "int" = some true := by decide +kernel
@[simp] theorem k_bb : isiD "bool" "bool" = some true := by decide +kernel
@[simp] theorem k_bs : isiD "bool" "str" = some false := by decide +kernel
@[simp] theorem k_bl : isiD "bool" "list" = some false := by decide +kernel
@[simp] theorem k_bt : isiD "bool" "tuple" = some false := by decide +kernel
@[simp] theorem k_ii : isiD "int" "int" = some true := by decide +kernel
@[simp] theorem k_ib : isiD "int" "bool" = some false := by decide +kernel
@[simp] theorem k_is : isiD "int" "str" = some false := by decide +kernel
@[simp] theorem k_il : isiD "int" "list" = some false := by decide +kernel
@[simp] theorem k_it : isiD "int" "tuple" = some false := by decide +kernel
@[simp] theorem k_si : isiD "str" "int" = some false := by decide +kernel
@[simp] theorem k_sb : isiD "str" "bool" = some false := by decide +kernel
@[simp] theorem k_ss : isiD "str" "str" = some true := by decide +kernel
@[simp] theorem k_sl : isiD "str" "list" = some false := by decide +kernel
@[simp] theorem k_st : isiD "str" "tuple" = some false := by decide +kernel
@[simp] theorem k_ti : isiD "tuple" "int" = some false := by decide +kernel
@[simp] theorem k_tb : isiD "tuple" "bool" = some false := by decide +kernel
@[simp] theorem k_ts : isiD "tuple" "str" = some false := by decide +kernel
@[simp] theorem k_tl : isiD "tuple" "list" = some false := by decide +kernel
@[simp] theorem k_tt : isiD "tuple" "tuple" = some true := by decide +kernel
@[simp] theorem k_li : isiD "list" "int" = some false := by decide +kernel
@[simp] theorem k_lb : isiD "list" "bool" = some false := by decide +kernel
@[simp] theorem k_ls : isiD "list" "str" = some false := by decide +kernel
@[simp] theorem k_ll : isiD "list" "list" = some true := by decide +kernel
@[simp] theorem k_lt : isiD "list" "tuple" = some false := by decide +kernel
theorem x_size : sizeLine = 16777216 := by decide +kernel
theorem x_rng {lo : Int} {n : Nat} : rngD lo (n + 1) = .int lo :: rngD (lo + 1) n := by
  unfold rngD
  rw [List.range_succ_eq_map, List.map_cons, List.map_map]
  have e : ∀ k : Nat, ((fun i : Nat => D.int (lo + (i : Int))) ∘ Nat.succ) k = D.int (lo + 1 + (k : Int)) := fun k => by
    show D.int (lo + ((k + 1 : Nat) : Int)) = D.int (lo + 1 + (k : Int))
    congr 1
    omega
  rw [show ((fun i : Nat => D.int (lo + (i : Int))) ∘ Nat.succ) = fun k : Nat => D.int (lo + 1 + (k : Int)) from funext e]
  simp
@[simp] theorem x_rng0 {lo : Int} : rngD lo 0 = [] := (rfl)
theorem rngD_length {lo : Int} {n : Nat} : (rngD lo n).length = n := by simp [rngD]
/-- a walk that keeps P -/
theorem forI_inv {g : Gv} {b : Sv} (P : Env → Store → Prop) : ∀ (ds : List D) (ρ : Env) (S : Store), P ρ S → (∀ d ∈ ds, ∀ ρ S, P ρ S → ∃ ρ1, g d ρ = some ρ1 ∧ ∃ ρ2 S2, b ρ1 S = .nx ρ2 S2 ∧ P ρ2 S2) → ∃ ρ' S', forI g b ds ρ S = .nx ρ' S' ∧ P ρ' S'
  | [], ρ, S, h, _ => ⟨ρ, S, rfl, h⟩
  | d :: ds, ρ, S, h, step => by
    obtain ⟨ρ1, e1, ρ2, S2, e2, h2⟩ := step d (List.mem_cons_self ..) ρ S h
    obtain ⟨ρ', S', e3, h3⟩ := forI_inv P ds ρ2 S2 h2 fun x hx => step x (List.mem_cons_of_mem _ hx)
    exact ⟨ρ', S', by rw [x_for_cons, e1, x_opt_some, e2, x_loop_nx, e3], h3⟩
end UI
namespace UI
open PySem L2
/-! ### methods of texts, one argument -/
def strD : D → Option Str
  | .str s => some s
  | _ => none
def eM1 (g : Str → D → Option O) (a b : Ev) : Ev := fun ρ S => (a ρ S).bind fun x S1 => (Out.of ((look x S1).bind strD) S1).bind fun s S2 => (b ρ S2).bind fun y S3 => .of ((look y S3).bind (g s)) S3
def joinD (a : Str) : D → Option O
  | .lst ds => (strsOf ds).bind fun ys => if (ys.map (·.length)).sum + ys.length * a.length ≤ 16777216 then some (.val (.str (Txt.join a ys))) else none
  | _ => none
def splitD (a : Str) : D → Option O
  | .str b => if (b.length == 0) = false ∧ a.length + 2 ≤ sizeLine then some (.fr ((Txt.split a b).map .str)) else none
  | _ => none
theorem strs_V {K : PySem.W.Frag} {H : Hp} : ∀ {ds : List D} {vs : List V} {ns : List Str}, RepL K H ds vs → strsOf ds = some ns → vs = ns.map V.str
  | [], vs, ns, r, h => by
    simp only [RepL] at r
    cases h
    exact r
  | d :: ds, vs, ns, r, h => by
    simp only [RepL] at r
    obtain ⟨v, w, rfl, r1, r2⟩ := r
    cases d <;> simp only [strsOf, Option.map_eq_some_iff, reduceCtorEq] at h
    obtain ⟨ms, e, rfl⟩ := h
    simp only [Rep] at r1
    rw [r1, strs_V r2 e]
    rfl
theorem repL_strs {K : PySem.W.Frag} {H : Hp} : ∀ ys : List Str, RepL K H (ys.map D.str) (ys.map V.str)
  | [] => .nil
  | y :: ys => .cons (by simp only [Rep]) (repL_strs ys)
section
variable {X : Cx} {W : Wy} {a b : Expr} {ca cb : Ev} {apos pos : Pos}
/-- the reading of a method's call -/
theorem m1_core {r : V → List V → Hp → VK → Prop} {g : Str → D → Option O} (hr : ∀ (φ : Fm) (S : Store) (H : Hp) (s : Str) (d : D) (v : V) (o : O) (Q : VK), Cells X.K φ S H → RepT X.K (hid φ S H) H d v → g s d = some o → Res X.K φ S H o Q → r (.str s) [v] H Q)
    {σ : L2.St} {H : Hp} {Q : VK} (h : tE X.K W (eM1 g ca cb) σ H Q) : tM1 r (tE X.K W ca) (tE X.K W cb) σ H Q := by
  obtain ⟨φ, ρ, S, st, g0⟩ := h
  refine tE.first st g0 fun o S1 v H1 s1 q1 g1 => ?_
  obtain ⟨s, e, g2⟩ := g1.bind.of
  cases e1 : look o S1 with
  | none => rw [e1] at e; cases e
  | some d =>
    rw [e1] at e
    have r1 := look_ok q1.w s1.cells e1
    cases d <;> simp only [Option.bind_some, strD, Option.some.injEq, reduceCtorEq] at e
    subst e
    have r1 : Rep X.K (hid φ S1 H1) (.str _) v := r1
    simp only [Rep] at r1
    subst r1
    refine ⟨⟨_, rfl⟩, ?_⟩
    refine tE.first (st.step s1) g2 fun o2 S2 v2 H2 s2 q2 g3 => ?_
    obtain ⟨res, e3, g4⟩ := g3.of
    cases e4 : look o2 S2 with
    | none => rw [e4] at e3; cases e3
    | some d2 =>
      rw [e4] at e3
      exact hr φ S2 H2 _ d2 v2 res Q s2.cells (look_ok q2.w s2.cells e4) e3 fun w H3 s3 q3 => g4 w H3 ((s1.trans s2).trans s3) (q3.back fun x h => s2.ex x (s1.ex x h))
theorem wJoin (ha : PE X a (tE X.K W ca)) (hb : PE X b (tE X.K W cb)) (hs : starEach [b] X.env = [(false, eval b X.env)] := by rfl) (hbase : attributeBase a "join" X.env (eval a X.env) = eval a X.env := by rfl) (hline : (apos.endLine == pos.line) = true := by rfl) :
    PE X (.Call (.Attribute a "join" apos) [b] [] pos) (tE X.K W (eM1 joinD ca cb)) := PE.imp (pe_join ha hb hs hbase hline) fun σ H Q h => m1_core (fun φ S H s d v o Q c r e q => by
  cases d <;> simp only [joinD, reduceCtorEq] at e
  rename_i ds
  obtain ⟨x, vs, rfl, h1, h2⟩ := r
  cases e2 : strsOf ds with
  | none => rw [e2] at e; cases e
  | some ys =>
    rw [e2] at e
    simp only [Option.bind_some] at e
    split at e
    · cases e
      rename_i hz
      have hv := strs_V h2 e2
      subst hv
      exact ⟨s, x, ys, rfl, rfl, .inl (.inl (.inl h1)), hz, q.val c (by simp only [Rep])⟩
    · cases e) h
theorem wSplit (ha : PE X a (tE X.K W ca)) (hb : PE X b (tE X.K W cb)) (hs : starEach [b] X.env = [(false, eval b X.env)] := by rfl) (hbase : attributeBase a "split" X.env (eval a X.env) = eval a X.env := by rfl) (hline : (apos.endLine == pos.line) = true := by rfl) :
    PE X (.Call (.Attribute a "split" apos) [b] [] pos) (tE X.K W (eM1 splitD ca cb)) := PE.imp (pe_split ha hb hs hbase hline) fun σ H Q h => m1_core (fun φ S H s d v o Q c r e q => by
  cases d <;> simp only [splitD, reduceCtorEq] at e
  rename_i t
  split at e
  · cases e
    rename_i hz
    have r : Rep X.K (hid φ S H) (.str t) v := r
    simp only [Rep] at r
    subst r
    refine ⟨s, t, rfl, rfl, hz.1, hz.2, fun p hp => q _ _ (.new c hp) (OOk.newL c hp (repL_strs _))⟩
  · cases e) h
end
@[simp] theorem x_M1 {g : Str → D → Option O} {a b : Ev} {ρ : Env} {S : Store} : eM1 g a b ρ S = (a ρ S).bind fun x S1 => (Out.of ((look x S1).bind strD) S1).bind fun s S2 => (b ρ S2).bind fun y S3 => .of ((look y S3).bind (g s)) S3 := (rfl)
@[simp] theorem x_strD {s : Str} : strD (.str s) = some s := (rfl)
end UI
namespace UI.LW
open PySem L2
theorem wFuel_ex : ∃ n : Nat, n = 10 ^ 60 := ⟨_, rfl⟩
noncomputable def wFuel : Nat := Classical.choose wFuel_ex
theorem wFuel_eq : wFuel = 10 ^ 60 := Classical.choose_spec wFuel_ex
def m_BadText : Str → Option Bool := mOf [("BadText", true), ("UndoError", false)]
noncomputable def c_is_keyword : Sv := sRet (eOr (eB (tCmp .In (eSlot 0) (eC (.tup [.str "fun", .str "let", .str "repeat", .str "if", .str "else", .str "give", .str "pick", .str "table"])))) (eB (tCmp .In (eSlot 0) (eC (.tup [.str "routine", .str "from", .str "loop", .str "until", .str "fi", .str "local", .str "end", .str "call", .str "back"])))))
noncomputable def F_is_keyword : List O → Store → Out O := mkF 1 1 c_is_keyword
noncomputable def c_is_name : Sv := sSeq (sIf (tOr (tNot (tVal (eCallB isiB (aCons (eSlot 0) (aCons (eC (.ty "str")) (aNil)))))) (tOr (tCmp .Eq (eCallB lenB (aCons (eSlot 0) (aNil))) (eC (.int 0))) (tOr (tCmp .Gt (eCallB lenB (aCons (eSlot 0) (aNil))) (eC (.int 8))) (tCmp .NotIn (eIx (eSlot 0) (eC (.int 0))) (eC (.str "abcdefghijklmnopqrstuvwxyz")))))) (sRet (eC (.bl false))) (sNext)) (sRet (eAnd (eCallB allB (aCons (eComp [1] (gNm 1) (iVal (eSlot 0)) (tYes) (eOr (eB (tCmp .In (eSlot 1) (eC (.str "abcdefghijklmnopqrstuvwxyz")))) (eB (tCmp .In (eSlot 1) (eC (.str "0123456789")))))) (aNil))) (eNot (eCall F_is_keyword (aCons (eSlot 0) (aNil))))))
noncomputable def F_is_name : List O → Store → Out O := mkF 1 2 c_is_name
noncomputable def c_end_of_run : Sv := sSeq (sSet 3 (eSlot 1)) (sSeq (sWhile wFuel (tAnd (tCmp .Lt (eSlot 3) (eCallB lenB (aCons (eSlot 0) (aNil)))) (tCmp .In (eIx (eSlot 0) (eSlot 3)) (eSlot 2))) (sSet 3 (eBin .Add (eSlot 3) (eC (.int 1))))) (sRet (eSlot 3)))
noncomputable def F_end_of_run : List O → Store → Out O := mkF 3 4 c_end_of_run
noncomputable def c_word_token : Sv := sSeq (sSet 2 (eSl (eSlot 0) (pSome (eSlot 1)) (pSome (eCall F_end_of_run (aCons (eSlot 0) (aCons (eSlot 1) (aCons (eBin .Add (eC (.str "abcdefghijklmnopqrstuvwxyz")) (eC (.str "0123456789"))) (aNil)))))))) (sSeq (sIf (tCmp .Gt (eCallB lenB (aCons (eSlot 2) (aNil))) (eC (.int 8))) (sRaise "BadText" ["spot", "what"] (lCons (eSlot 1) (lCons (eC (.str "name")) (lNil)))) (sNext)) (sRet (eTup (lCons (eIf (tVal (eCall F_is_keyword (aCons (eSlot 2) (aNil)))) (eC (.str "word")) (eC (.str "name"))) (lCons (eSlot 2) (lCons (eSlot 1) (lNil)))))))
noncomputable def F_word_token : List O → Store → Out O := mkF 2 3 c_word_token
noncomputable def c_number_token : Sv := sSeq (sSet 3 (eSl (eSlot 0) (pSome (eSlot 1)) (pSome (eSlot 2)))) (sSeq (sIf (tOr (tCmp .Gt (eCallB lenB (aCons (eSlot 3) (aNil))) (eC (.int 4))) (tOr (tAnd (tCmp .Gt (eCallB lenB (aCons (eSlot 3) (aNil))) (eC (.int 1))) (tCmp .Eq (eIx (eSlot 3) (eC (.int 0))) (eC (.str "0")))) (tCmp .Gt (eCallB intB (aCons (eSlot 3) (aNil))) (eC (.int 4095))))) (sRaise "BadText" ["spot", "what"] (lCons (eSlot 1) (lCons (eC (.str "number")) (lNil)))) (sNext)) (sRet (eTup (lCons (eC (.str "number")) (lCons (eCallB intB (aCons (eSlot 3) (aNil))) (lCons (eSlot 1) (lNil)))))))
noncomputable def F_number_token : List O → Store → Out O := mkF 3 4 c_number_token
noncomputable def c_sign_token : Sv := sSeq (sIf (tCmp .Eq (eSl (eSlot 0) (pSome (eSlot 1)) (pSome (eBin .Add (eSlot 1) (eC (.int 3))))) (eC (.str "<=>"))) (sRet (eTup (lCons (eC (.str "sign")) (lCons (eC (.str "<=>")) (lCons (eSlot 1) (lNil)))))) (sNext)) (sSeq (sIf (tCmp .In (eSl (eSlot 0) (pSome (eSlot 1)) (pSome (eBin .Add (eSlot 1) (eC (.int 2))))) (eC (.tup [.str "==", .str "<<", .str ">>", .str "+=", .str "-=", .str "^="]))) (sRet (eTup (lCons (eC (.str "sign")) (lCons (eSl (eSlot 0) (pSome (eSlot 1)) (pSome (eBin .Add (eSlot 1) (eC (.int 2))))) (lCons (eSlot 1) (lNil)))))) (sNext)) (sSeq (sIf (tCmp .In (eIx (eSlot 0) (eSlot 1)) (eC (.str "{}()[],;=+-*&|^<"))) (sRet (eTup (lCons (eC (.str "sign")) (lCons (eIx (eSlot 0) (eSlot 1)) (lCons (eSlot 1) (lNil)))))) (sNext)) (sRaise "BadText" ["spot", "what"] (lCons (eSlot 1) (lCons (eC (.str "sign")) (lNil))))))
noncomputable def F_sign_token : List O → Store → Out O := mkF 2 2 c_sign_token
noncomputable def c_open_behind : Sv := sSeq (sIf (tCmp .In (eSlot 0) (eTup (lCons (eC (.str "(")) (lCons (eC (.str "[")) (lCons (eC (.str "{")) (lNil)))))) (sRet (eBin .Add (eSlot 1) (eC (.int 1)))) (sNext)) (sSeq (sIf (tAnd (tCmp .In (eSlot 0) (eTup (lCons (eC (.str ")")) (lCons (eC (.str "]")) (lCons (eC (.str "}")) (lNil)))))) (tCmp .Gt (eSlot 1) (eC (.int 0)))) (sRet (eBin .Sub (eSlot 1) (eC (.int 1)))) (sNext)) (sRet (eSlot 1)))
noncomputable def F_open_behind : List O → Store → Out O := mkF 2 2 c_open_behind
noncomputable def b_cut_text_1 : Sv := sSeq (sIf (tCmp .In (eIx (eSlot 0) (eSlot 3)) (eC (.str " \n"))) (sSeq (sSet 3 (eBin .Add (eSlot 3) (eC (.int 1)))) (sCt)) (sNext)) (sSeq (sIf (tCmp .In (eIx (eSlot 0) (eSlot 3)) (eC (.str "abcdefghijklmnopqrstuvwxyz"))) (sSeq (sSet 5 (eCall F_word_token (aCons (eSlot 0) (aCons (eSlot 3) (aNil))))) (sSet 3 (eBin .Add (eSlot 3) (eCallB lenB (aCons (eIx (eSlot 5) (eC (.int 1))) (aNil)))))) (sIf (tCmp .In (eIx (eSlot 0) (eSlot 3)) (eC (.str "0123456789"))) (sSeq (sSet 6 (eCall F_end_of_run (aCons (eSlot 0) (aCons (eSlot 3) (aCons (eC (.str "0123456789")) (aNil)))))) (sSeq (sSet 5 (eCall F_number_token (aCons (eSlot 0) (aCons (eSlot 3) (aCons (eSlot 6) (aNil)))))) (sSet 3 (eSlot 6)))) (sSeq (sSet 5 (eCall F_sign_token (aCons (eSlot 0) (aCons (eSlot 3) (aNil))))) (sSeq (sSet 4 (eCall F_open_behind (aCons (eIx (eSlot 5) (eC (.int 1))) (aCons (eSlot 4) (aNil))))) (sSeq (sIf (tCmp .Gt (eSlot 4) (eC (.int 20))) (sRaise "BadText" ["spot", "what"] (lCons (eSlot 3) (lCons (eC (.str "deep")) (lNil)))) (sNext)) (sSet 3 (eBin .Add (eSlot 3) (eCallB lenB (aCons (eIx (eSlot 5) (eC (.int 1))) (aNil)))))))))) (sApp 2 (eSlot 5)))
noncomputable def c_cut_text : Sv := sSeq (sIf (tNot (tVal (eCallB isiB (aCons (eSlot 0) (aCons (eC (.ty "str")) (aNil)))))) (sRaise "BadText" ["spot", "what"] (lCons (eUn .USub (eC (.int 1))) (lCons (eC (.str "text")) (lNil)))) (sNext)) (sSeq (sIf (tCmp .Gt (eCallB lenB (aCons (eSlot 0) (aNil))) (eSlot 1)) (sRaise "BadText" ["spot", "what"] (lCons (eUn .USub (eC (.int 1))) (lCons (eC (.str "long")) (lNil)))) (sNext)) (sSeq (sSetM 2 (eLst (lNil))) (sSeq (sSet 3 (eC (.int 0))) (sSeq (sSet 4 (eC (.int 0))) (sSeq (sWhile wFuel (tCmp .Lt (eSlot 3) (eCallB lenB (aCons (eSlot 0) (aNil)))) (b_cut_text_1)) (sSeq (sApp 2 (eTup (lCons (eC (.str "end")) (lCons (eC (.str "")) (lCons (eCallB lenB (aCons (eSlot 0) (aNil))) (lNil)))))) (sRet (eCallB tupleB (aCons (eSlot 2) (aNil))))))))))
noncomputable def F_cut_text : List O → Store → Out O := mkF 2 7 c_cut_text
noncomputable def c__law_hand : Sv := sSeq (sSet 1 (eBin .Add (eCallB lenB (aCons (eSlot 0) (aNil))) (eC (.int 59)))) (sSeq (sSetM 2 (eLst (lNil))) (sSeq (sFor (gNm 3) (iVal (eSlot 0)) (sSeq (sSet 1 (eBin .Mod (eCallB intB (aCons (eBin .Add (eBin .Mult (eSlot 1) (eC (.int 2017))) (eCallB intB (aCons (eSlot 3) (aNil)))) (aNil))) (eC (.int 2147483543)))) (sApp 2 (eCallB absB (aCons (eCallB intB (aCons (eSlot 3) (aNil))) (aNil)))))) (sRet (eLst (lCons (eSlot 2) (lCons (eC (.int 0)) (lCons (eC (.int 0)) (lCons (eSlot 1) (lNil)))))))))
noncomputable def F__law_hand : List O → Store → Out O := mkF 1 4 c__law_hand
noncomputable def c__law_mixed : Sv := sSeq (sSet 2 (eBin .Mod (eCallB intB (aCons (eBin .Add (eBin .Add (eBin .Mult (eSlot 0) (eC (.int 40014))) (eBin .Mult (eSlot 1) (eC (.int 7331)))) (eC (.int 60013))) (aNil))) (eC (.int 2147483399)))) (sSeq (sSet 3 (eBin .Mod (eCallB intB (aCons (eBin .Add (eBin .Add (eBin .Mult (eSlot 2) (eSlot 2)) (eBin .Mult (eSlot 1) (eC (.int 80021)))) (eBin .FloorDiv (eSlot 2) (eC (.int 139)))) (aNil))) (eC (.int 2147483629)))) (sRet (eBin .FloorDiv (eCallB intB (aCons (eBin .Mod (eCallB intB (aCons (eBin .Add (eBin .Mult (eSlot 3) (eC (.int 61001))) (eBin .FloorDiv (eSlot 2) (eC (.int 13)))) (aNil))) (eC (.int 2147483587))) (aNil))) (eC (.int 64)))))
noncomputable def F__law_mixed : List O → Store → Out O := mkF 2 4 c__law_mixed
noncomputable def c__law_take : Sv := sSeq (sIf (tAnd (tCmp .Eq (eIx (eSlot 0) (eC (.int 2))) (eC (.int 0))) (tCmp .Lt (eIx (eSlot 0) (eC (.int 1))) (eCallB lenB (aCons (eIx (eSlot 0) (eC (.int 0))) (aNil))))) (sSeq (sSet 2 (eIx (eIx (eSlot 0) (eC (.int 0))) (eIx (eSlot 0) (eC (.int 1))))) (sSeq (sSetIx 0 (eC (.int 1)) (eBin .Add (eIx (eSlot 0) (eC (.int 1))) (eC (.int 1)))) (sSeq (sIf (tCmp .Lt (eSlot 2) (eBin .Pow (eC (.int 10)) (eC (.int 18)))) (sRet (eBin .Mod (eCallB intB (aCons (eCall F__law_mixed (aCons (eBin .Mod (eCallB intB (aCons (eSlot 2) (aNil))) (eC (.int 2147483399))) (aCons (eIx (eSlot 0) (eC (.int 1))) (aNil)))) (aNil))) (eSlot 1))) (sNext)) (sSetIx 0 (eC (.int 2)) (eSlot 2))))) (sNext)) (sSeq (sIf (tCmp .Gt (eIx (eSlot 0) (eC (.int 2))) (eC (.int 0))) (sSeq (sSet 3 (eIx (eSlot 0) (eC (.int 2)))) (sSeq (sSetIx 0 (eC (.int 2)) (eBin .FloorDiv (eCallB intB (aCons (eSlot 3) (aNil))) (eSlot 1))) (sRet (eBin .Mod (eCallB intB (aCons (eSlot 3) (aNil))) (eSlot 1))))) (sNext)) (sSeq (sSetIx 0 (eC (.int 3)) (eBin .Mod (eCallB intB (aCons (eBin .Add (eIx (eSlot 0) (eC (.int 3))) (eC (.int 1))) (aNil))) (eC (.int 2147483549)))) (sRet (eBin .Mod (eCallB intB (aCons (eCall F__law_mixed (aCons (eIx (eSlot 0) (eC (.int 3))) (aCons (eIx (eSlot 0) (eC (.int 1))) (aNil)))) (aNil))) (eSlot 1)))))
noncomputable def F__law_take : List O → Store → Out O := mkF 2 4 c__law_take
noncomputable def c__law_whole : Sv := sRet (eAnd (eCallB isiB (aCons (eSlot 0) (aCons (eC (.ty "int")) (aNil)))) (eNot (eCallB isiB (aCons (eSlot 0) (aCons (eC (.ty "bool")) (aNil))))))
noncomputable def F__law_whole : List O → Store → Out O := mkF 1 1 c__law_whole
noncomputable def c__law_piece : Sv := sSeq (sSet 1 (eCall F__law_take (aCons (eSlot 0) (aCons (eC (.int 9)) (aNil))))) (sSeq (sIf (tCmp .Eq (eSlot 1) (eC (.int 0))) (sSeq (sSet 2 (eLst (lCons (eC (.str "fun")) (lCons (eC (.str "let")) (lCons (eC (.str "repeat")) (lCons (eC (.str "if")) (lCons (eC (.str "else")) (lCons (eC (.str "give")) (lCons (eC (.str "pick")) (lCons (eC (.str "table")) (lCons (eC (.str "routine")) (lCons (eC (.str "from")) (lCons (eC (.str "loop")) (lCons (eC (.str "until")) (lCons (eC (.str "fi")) (lCons (eC (.str "local")) (lCons (eC (.str "end")) (lCons (eC (.str "call")) (lCons (eC (.str "back")) (lNil)))))))))))))))))))) (sRet (eBin .Add (eIx (eSlot 2) (eCall F__law_take (aCons (eSlot 0) (aCons (eC (.int 17)) (aNil))))) (eIf (tCmp .Gt (eCall F__law_take (aCons (eSlot 0) (aCons (eC (.int 4)) (aNil)))) (eC (.int 0))) (eC (.str "")) (eCallB strB (aCons (eCall F__law_take (aCons (eSlot 0) (aCons (eC (.int 10)) (aNil)))) (aNil))))))) (sNext)) (sSeq (sIf (tCmp .Lt (eSlot 1) (eC (.int 3))) (sSeq (sSet 3 (eM1 joinD (eC (.str "")) (eComp [4] (gNm 4) (iRng1 (eIf (tCmp .Gt (eCall F__law_take (aCons (eSlot 0) (aCons (eC (.int 4)) (aNil)))) (eC (.int 0))) (eCall F__law_take (aCons (eSlot 0) (aCons (eC (.int 9)) (aNil)))) (eC (.int 7)))) (tYes) (eIx (eC (.str "abcdefghijklmnopqrstuvwxyz0123456789")) (eCall F__law_take (aCons (eSlot 0) (aCons (eC (.int 36)) (aNil)))))))) (sRet (eBin .Add (eIx (eC (.str "abcdefghijklmnopqrstuvwxyz")) (eCall F__law_take (aCons (eSlot 0) (aCons (eC (.int 26)) (aNil))))) (eSlot 3)))) (sNext)) (sSeq (sIf (tCmp .Lt (eSlot 1) (eC (.int 5))) (sRet (eCallB strB (aCons (eIf (tCmp .Eq (eCall F__law_take (aCons (eSlot 0) (aCons (eC (.int 2)) (aNil)))) (eC (.int 0))) (eCall F__law_take (aCons (eSlot 0) (aCons (eC (.int 10)) (aNil)))) (eCall F__law_take (aCons (eSlot 0) (aCons (eC (.int 4200)) (aNil))))) (aNil)))) (sNext)) (sSeq (sIf (tCmp .Eq (eSlot 1) (eC (.int 5))) (sRet (eIx (eLst (lCons (eC (.str "4095")) (lCons (eC (.str "4096")) (lCons (eC (.str "0")) (lCons (eC (.str "00")) (lCons (eC (.str "07")) (lCons (eC (.str "100000")) (lCons (eC (.str "999")) (lNil))))))))) (eCall F__law_take (aCons (eSlot 0) (aCons (eC (.int 7)) (aNil)))))) (sNext)) (sSeq (sIf (tAnd (tCmp .Eq (eSlot 1) (eC (.int 6))) (tCmp .Eq (eCall F__law_take (aCons (eSlot 0) (aCons (eC (.int 10)) (aNil)))) (eC (.int 0)))) (sRet (eIx (eC (.str "!~_Z:.>\t")) (eCall F__law_take (aCons (eSlot 0) (aCons (eC (.int 8)) (aNil)))))) (sNext)) (sRet (eIx (eLst (lCons (eC (.str "{")) (lCons (eC (.str "}")) (lCons (eC (.str "(")) (lCons (eC (.str ")")) (lCons (eC (.str "[")) (lCons (eC (.str "]")) (lCons (eC (.str ",")) (lCons (eC (.str ";")) (lCons (eC (.str "=")) (lCons (eC (.str "+")) (lCons (eC (.str "-")) (lCons (eC (.str "*")) (lCons (eC (.str "&")) (lCons (eC (.str "|")) (lCons (eC (.str "^")) (lCons (eC (.str "==")) (lCons (eC (.str "<")) (lCons (eC (.str "<<")) (lCons (eC (.str ">>")) (lCons (eC (.str "+=")) (lCons (eC (.str "-=")) (lCons (eC (.str "^=")) (lCons (eC (.str "<=>")) (lNil))))))))))))))))))))))))) (eCall F__law_take (aCons (eSlot 0) (aCons (eC (.int 23)) (aNil)))))))))))
noncomputable def F__law_piece : List O → Store → Out O := mkF 1 5 c__law_piece
noncomputable def c__law_end_of : Sv := sSeq (sFor (gNm 3) (iRng2 (eSlot 1) (eCallB lenB (aCons (eSlot 0) (aNil)))) (sIf (tCmp .NotIn (eIx (eSlot 0) (eSlot 3)) (eSlot 2)) (sRet (eSlot 3)) (sNext))) (sRet (eCallB lenB (aCons (eSlot 0) (aNil))))
noncomputable def F__law_end_of : List O → Store → Out O := mkF 3 4 c__law_end_of
noncomputable def c__law_sign_at : Sv := sSeq (sFor (gNm 2) (iVal (eLst (lCons (eC (.str "<=>")) (lCons (eC (.str "==")) (lCons (eC (.str "<<")) (lCons (eC (.str ">>")) (lCons (eC (.str "+=")) (lCons (eC (.str "-=")) (lCons (eC (.str "^=")) (lCons (eC (.str "{")) (lCons (eC (.str "}")) (lCons (eC (.str "(")) (lCons (eC (.str ")")) (lCons (eC (.str "[")) (lCons (eC (.str "]")) (lCons (eC (.str ",")) (lCons (eC (.str ";")) (lCons (eC (.str "=")) (lCons (eC (.str "+")) (lCons (eC (.str "-")) (lCons (eC (.str "*")) (lCons (eC (.str "&")) (lCons (eC (.str "|")) (lCons (eC (.str "^")) (lCons (eC (.str "<")) (lNil)))))))))))))))))))))))))) (sIf (tCmp .Eq (eSl (eSlot 0) (pSome (eSlot 1)) (pSome (eBin .Add (eSlot 1) (eCallB lenB (aCons (eSlot 2) (aNil)))))) (eSlot 2)) (sRet (eSlot 2)) (sNext))) (sRet (eC (.str "")))
noncomputable def F__law_sign_at : List O → Store → Out O := mkF 2 3 c__law_sign_at
noncomputable def b__law_cut_told_1 : Sv := sSeq (sIf (tOr (tCmp .Lt (eSlot 6) (eSlot 4)) (tCmp .In (eIx (eSlot 0) (eSlot 6)) (eC (.str " \n")))) (sCt) (sNext)) (sIf (tCmp .In (eIx (eSlot 0) (eSlot 6)) (eC (.str "abcdefghijklmnopqrstuvwxyz"))) (sSeq (sSet 4 (eCall F__law_end_of (aCons (eSlot 0) (aCons (eSlot 6) (aCons (eC (.str "abcdefghijklmnopqrstuvwxyz0123456789")) (aNil)))))) (sSeq (sSet 7 (eSl (eSlot 0) (pSome (eSlot 6)) (pSome (eSlot 4)))) (sSeq (sIf (tCmp .Gt (eCallB lenB (aCons (eSlot 7) (aNil))) (eC (.int 8))) (sRet (eTup (lCons (eTup (lCons (eSlot 6) (lCons (eC (.str "name")) (lNil)))) (lCons (eLst (lNil)) (lNil))))) (sNext)) (sApp 3 (eTup (lCons (eIf (tCmp .In (eSlot 7) (eSlot 2)) (eC (.str "word")) (eC (.str "name"))) (lCons (eSlot 7) (lCons (eSlot 6) (lNil))))))))) (sIf (tCmp .In (eIx (eSlot 0) (eSlot 6)) (eC (.str "0123456789"))) (sSeq (sSet 4 (eCall F__law_end_of (aCons (eSlot 0) (aCons (eSlot 6) (aCons (eC (.str "0123456789")) (aNil)))))) (sSeq (sSet 8 (eSl (eSlot 0) (pSome (eSlot 6)) (pSome (eSlot 4)))) (sSeq (sIf (tOr (tCmp .Gt (eCallB lenB (aCons (eSlot 8) (aNil))) (eC (.int 4))) (tOr (tAnd (tCmp .Eq (eIx (eSlot 8) (eC (.int 0))) (eC (.str "0"))) (tCmp .Gt (eCallB lenB (aCons (eSlot 8) (aNil))) (eC (.int 1)))) (tCmp .Gt (eCallB intB (aCons (eSlot 8) (aNil))) (eC (.int 4095))))) (sRet (eTup (lCons (eTup (lCons (eSlot 6) (lCons (eC (.str "number")) (lNil)))) (lCons (eLst (lNil)) (lNil))))) (sNext)) (sApp 3 (eTup (lCons (eC (.str "number")) (lCons (eCallB intB (aCons (eSlot 8) (aNil))) (lCons (eSlot 6) (lNil))))))))) (sSeq (sSet 9 (eCall F__law_sign_at (aCons (eSlot 0) (aCons (eSlot 6) (aNil))))) (sSeq (sIf (tCmp .Eq (eSlot 9) (eC (.str ""))) (sRet (eTup (lCons (eTup (lCons (eSlot 6) (lCons (eC (.str "sign")) (lNil)))) (lCons (eLst (lNil)) (lNil))))) (sNext)) (sSeq (sIf (tCmp .In (eSlot 9) (eC (.str "([{"))) (sSet 5 (eBin .Add (eSlot 5) (eC (.int 1)))) (sNext)) (sSeq (sIf (tCmp .In (eSlot 9) (eC (.str ")]}"))) (sSet 5 (eCallB max2B (aCons (eC (.int 0)) (aCons (eBin .Sub (eSlot 5) (eC (.int 1))) (aNil))))) (sNext)) (sSeq (sIf (tCmp .Eq (eSlot 5) (eC (.int 21))) (sRet (eTup (lCons (eTup (lCons (eSlot 6) (lCons (eC (.str "deep")) (lNil)))) (lCons (eLst (lNil)) (lNil))))) (sNext)) (sSeq (sApp 3 (eTup (lCons (eC (.str "sign")) (lCons (eSlot 9) (lCons (eSlot 6) (lNil)))))) (sSet 4 (eBin .Add (eSlot 6) (eCallB lenB (aCons (eSlot 9) (aNil)))))))))))))
noncomputable def c__law_cut_told : Sv := sSeq (sIf (tCmp .Gt (eCallB lenB (aCons (eSlot 0) (aNil))) (eSlot 1)) (sRet (eTup (lCons (eTup (lCons (eUn .USub (eC (.int 1))) (lCons (eC (.str "long")) (lNil)))) (lCons (eLst (lNil)) (lNil))))) (sNext)) (sSeq (sSet 2 (eM1 splitD (eC (.str "fun let repeat if else give pick table routine from loop until fi local end call back")) (eC (.str " ")))) (sSeq (sSetM 3 (eLst (lNil))) (sSeq (sSet 4 (eC (.int 0))) (sSeq (sSet 5 (eC (.int 0))) (sSeq (sFor (gNm 6) (iRng1 (eCallB lenB (aCons (eSlot 0) (aNil)))) (b__law_cut_told_1)) (sRet (eTup (lCons (eC .non) (lCons (eBin .Add (eSlot 3) (eLst (lCons (eTup (lCons (eC (.str "end")) (lCons (eC (.str "")) (lCons (eCallB lenB (aCons (eSlot 0) (aNil))) (lNil))))) (lNil)))) (lNil))))))))))
noncomputable def F__law_cut_told : List O → Store → Out O := mkF 2 10 c__law_cut_told
noncomputable def b_law_1 : Sv := sIf (tOr (tNot (tVal (eCallB isiB (aCons (eSlot 10) (aCons (eC (.ty "tuple")) (aNil)))))) (tOr (tAnd (tCmp .Eq (eIx (eSlot 10) (eC (.int 0))) (eC (.str "number"))) (tNot (tVal (eCall F__law_whole (aCons (eIx (eSlot 10) (eC (.int 1))) (aNil)))))) (tNot (tVal (eCall F__law_whole (aCons (eIx (eSlot 10) (eC (.int 2))) (aNil))))))) (sRet (eC (.bl false))) (sNext)
noncomputable def b_law_2 : Sv := sSeq (sSet 12 (eIx (eCall F__law_cut_told (aCons (eSlot 11) (aCons (eC (.int 3000)) (aNil)))) (eC (.int 1)))) (sSeq (sSet 13 (eAnd (eB (tCmp .Eq (eCallB lenB (aCons (eSlot 12) (aNil))) (eC (.int 2)))) (eB (tCmp .Eq (eIx (eIx (eSlot 12) (eC (.int 0))) (eC (.int 0))) (eC (.str "name")))))) (sSeq (sSet 14 (eCall F_is_name (aCons (eSlot 11) (aNil)))) (sIf (tOr (tCmp .NotEq (eSlot 14) (eSlot 13)) (tNot (tVal (eCallB isiB (aCons (eSlot 14) (aCons (eC (.ty "bool")) (aNil))))))) (sRet (eC (.bl false))) (sNext))))
noncomputable def c_law : Sv := sSeq (sSetM 1 (eCall F__law_hand (aCons (eSlot 0) (aNil)))) (sSeq (sSet 2 (eComp [15] (gNm 15) (iRng1 (eCall F__law_take (aCons (eSlot 1) (aCons (eC (.int 25)) (aNil))))) (tYes) (eCall F__law_piece (aCons (eSlot 1) (aNil))))) (sSeq (sIf (tCmp .Eq (eCall F__law_take (aCons (eSlot 1) (aCons (eC (.int 4)) (aNil)))) (eC (.int 0))) (sSet 2 (eBin .Add (eBin .Add (eSlot 2) (eComp [15] (gNm 15) (iRng1 (eBin .Add (eC (.int 15)) (eCall F__law_take (aCons (eSlot 1) (aCons (eC (.int 10)) (aNil)))))) (tYes) (eIx (eC (.str "([{")) (eCall F__law_take (aCons (eSlot 1) (aCons (eC (.int 3)) (aNil))))))) (eLst (lCons (eCall F__law_piece (aCons (eSlot 1) (aNil))) (lNil))))) (sNext)) (sSeq (sSet 3 (eM1 joinD (eC (.str "")) (eComp [11] (gNm 11) (iVal (eSlot 2)) (tYes) (eBin .Add (eSlot 11) (eIx (eLst (lCons (eC (.str "")) (lCons (eC (.str " ")) (lCons (eC (.str " ")) (lCons (eC (.str "\n")) (lNil)))))) (eCall F__law_take (aCons (eSlot 1) (aCons (eC (.int 4)) (aNil))))))))) (sSeq (sIf (tCmp .Eq (eCall F__law_take (aCons (eSlot 1) (aCons (eC (.int 6)) (aNil)))) (eC (.int 0))) (sSet 3 (eBin .Add (eBin .Add (eSlot 3) (eIx (eC (.str " !#$'./:>?@A_`~\t")) (eCall F__law_take (aCons (eSlot 1) (aCons (eC (.int 16)) (aNil)))))) (eC (.str "a")))) (sNext)) (sSeq (sSet 4 (eIx (eLst (lCons (eC (.int 3000)) (lCons (eCallB lenB (aCons (eSlot 3) (aNil))) (lCons (eBin .Add (eCallB lenB (aCons (eSlot 3) (aNil))) (eC (.int 1))) (lCons (eCallB max2B (aCons (eC (.int 0)) (aCons (eBin .Sub (eCallB lenB (aCons (eSlot 3) (aNil))) (eC (.int 1))) (aNil)))) (lNil)))))) (eCall F__law_take (aCons (eSlot 1) (aCons (eC (.int 4)) (aNil)))))) (sSeq (sAsg (gTp [5, 6]) (eCall F__law_cut_told (aCons (eSlot 3) (aCons (eSlot 4) (aNil))))) (sSeq (sSet 7 (eC .non)) (sSeq (sSet 8 (eTup (lNil))) (sSeq (sTryAs m_BadText 9 (sSet 8 (eCall F_cut_text (aCons (eSlot 3) (aCons (eSlot 4) (aNil))))) (suiteOf ["BadText"] fun xc => sSet 7 (eTup (lCons (eXf 9 xc "spot") (lCons (eXf 9 xc "what") (lNil)))))) (sSeq (sIf (tOr (tCmp .NotEq (eSlot 7) (eSlot 5)) (tAnd (tCmp .Is (eSlot 5) (eC .non)) (tOr (tNot (tVal (eCallB isiB (aCons (eSlot 8) (aCons (eC (.ty "tuple")) (aNil)))))) (tCmp .NotEq (eCallB listB (aCons (eSlot 8) (aNil))) (eSlot 6))))) (sRet (eC (.bl false))) (sNext)) (sSeq (sFor (gNm 10) (iVal (eSlot 8)) (b_law_1)) (sSeq (sFor (gNm 11) (iVal (eSlot 2)) (b_law_2)) (sSeq (sIf (tOr (tVal (eCall F_is_name (aCons (eC (.str "")) (aNil)))) (tOr (tVal (eCall F_is_name (aCons (eC (.str " a")) (aNil)))) (tOr (tVal (eCall F_is_name (aCons (eC (.int 7)) (aNil)))) (tNot (tVal (eCall F_is_name (aCons (eC (.str "abcdefg8")) (aNil)))))))) (sRet (eC (.bl false))) (sNext)) (sSeq (sTryAs m_BadText 9 (sDrop (eCall F_cut_text (aCons (eSlot 4) (aCons (eSlot 4) (aNil))))) (suiteOf ["BadText"] fun xc => sRet (eB (tCmp .Eq (eTup (lCons (eXf 9 xc "spot") (lCons (eXf 9 xc "what") (lNil)))) (eTup (lCons (eUn .USub (eC (.int 1))) (lCons (eC (.str "text")) (lNil)))))))) (sRet (eC (.bl false)))))))))))))))))
noncomputable def F_law : List O → Store → Out O := mkF 1 16 c_law
end UI.LW
namespace UI.LW
open PySem L2
def top (i : Nat) : Stmt := PySem.Challenge.pw_undocells_k01_tokens_of_any_text.main.body.getD i (.Pass ⟨0, 0, 0, 0⟩)
def inCls : Stmt → List Stmt
  | .ClassDef _ _ _ body _ _ _ _ _ _ _ => body
  | _ => []
def mth (i j : Nat) : Stmt := (inCls (top i)).getD j (.Pass ⟨0, 0, 0, 0⟩)
def dd0 : He.DefD := ⟨("is_keyword", none), "is_keyword", "is_keyword", defArgs (top 12), defBody (top 12), defScope (top 12), [], []⟩
def dd1 : He.DefD := ⟨("is_name", none), "is_name", "is_name", defArgs (top 13), defBody (top 13), defScope (top 13), [], []⟩
def dd2 : He.DefD := ⟨("end_of_run", none), "end_of_run", "end_of_run", defArgs (top 14), defBody (top 14), defScope (top 14), [], []⟩
def dd3 : He.DefD := ⟨("word_token", none), "word_token", "word_token", defArgs (top 15), defBody (top 15), defScope (top 15), [], []⟩
def dd4 : He.DefD := ⟨("number_token", none), "number_token", "number_token", defArgs (top 16), defBody (top 16), defScope (top 16), [], []⟩
def dd5 : He.DefD := ⟨("sign_token", none), "sign_token", "sign_token", defArgs (top 17), defBody (top 17), defScope (top 17), [], []⟩
def dd6 : He.DefD := ⟨("open_behind", none), "open_behind", "open_behind", defArgs (top 18), defBody (top 18), defScope (top 18), [], []⟩
def dd7 : He.DefD := ⟨("cut_text", none), "cut_text", "cut_text", defArgs (top 19), defBody (top 19), defScope (top 19), [], []⟩
def dd8 : He.DefD := ⟨("_law_hand", none), "_law_hand", "_law_hand", defArgs (top 21), defBody (top 21), defScope (top 21), [], []⟩
def dd9 : He.DefD := ⟨("_law_mixed", none), "_law_mixed", "_law_mixed", defArgs (top 22), defBody (top 22), defScope (top 22), [], []⟩
def dd10 : He.DefD := ⟨("_law_take", none), "_law_take", "_law_take", defArgs (top 23), defBody (top 23), defScope (top 23), [], []⟩
def dd11 : He.DefD := ⟨("_law_whole", none), "_law_whole", "_law_whole", defArgs (top 24), defBody (top 24), defScope (top 24), [], []⟩
def dd12 : He.DefD := ⟨("_law_piece", none), "_law_piece", "_law_piece", defArgs (top 25), defBody (top 25), defScope (top 25), [], []⟩
def dd13 : He.DefD := ⟨("_law_end_of", none), "_law_end_of", "_law_end_of", defArgs (top 26), defBody (top 26), defScope (top 26), [], []⟩
def dd14 : He.DefD := ⟨("_law_sign_at", none), "_law_sign_at", "_law_sign_at", defArgs (top 27), defBody (top 27), defScope (top 27), [], []⟩
def dd15 : He.DefD := ⟨("_law_cut_told", none), "_law_cut_told", "_law_cut_told", defArgs (top 28), defBody (top 28), defScope (top 28), [], []⟩
def dd16 : He.DefD := ⟨("law", none), "law", "law", defArgs (top 29), defBody (top 29), defScope (top 29), [], []⟩
def dd17 : He.DefD := ⟨("BadText", some "__init__"), "__init__", "BadText.__init__", defArgs (mth 2 0), defBody (mth 2 0), defScope (mth 2 0), [], []⟩
def fn : List He.DefD := [dd0, dd1, dd2, dd3, dd4, dd5, dd6, dd7, dd8, dd9, dd10, dd11, dd12, dd13, dd14, dd15, dd16, dd17]
def fa : List He.Fa := [.glo "BadText", .glo "DOUBLE_SIGNS", .glo "OTHER_WORDS", .glo "PLAIN_WORDS", .glo "_law_cut_told", .glo "_law_end_of", .glo "_law_hand", .glo "_law_mixed", .glo "_law_piece", .glo "_law_sign_at", .glo "_law_take", .glo "_law_whole", .glo "cut_text", .glo "end_of_run", .glo "is_keyword", .glo "is_name", .glo "law", .glo "number_token", .glo "open_behind", .glo "sign_token", .glo "word_token", .free "abs", .free "all", .free "bool", .free "int", .free "isinstance", .free "len", .free "list", .free "max", .free "range", .free "str", .free "tuple", .int "MOST_OPEN" 20, .int "MOST_SIGNS" 8, .str "FIGURES" "0123456789", .str "LETTERS" "abcdefghijklmnopqrstuvwxyz", .str "SINGLE_SIGNS" "{}()[],;=+-*&|^<", .exm "BadText" "BadText" true, .exm "UndoError" "BadText" false, .noat "BadText" "spot", .noat "BadText" "what"]
def exL (K : PySem.W.Frag) : List Bool := [He.tupB K "DOUBLE_SIGNS" [.str "==", .str "<<", .str ">>", .str "+=", .str "-=", .str "^="], He.tupB K "OTHER_WORDS" [.str "routine", .str "from", .str "loop", .str "until", .str "fi", .str "local", .str "end", .str "call", .str "back"], He.tupB K "PLAIN_WORDS" [.str "fun", .str "let", .str "repeat", .str "if", .str "else", .str "give", .str "pick", .str "table"], oexB K (He.ga K "BadText"), iniB K "BadText", xfB K (He.ga K "BadText")]
def exB (K : PySem.W.Frag) : Bool := (exL K).all id
structure Fs (K : PySem.W.Frag) (mg : Str → Option Value) : Prop where
  X : ∃ h : Heap, K.In h ∧ h.Ns mainGlobals mg
  c : He.SaysD fa fn K
  e : exB K = true
section
variable {P : Program} {w : World} {K : PySem.W.Frag} {mg : Str → Option Value} {base : Heap}
theorem Fs.ex (Y : Fs K mg) (i : Nat) {b : Bool} (h : (exL K)[i]? = some b) : b = true := by
  have e := Y.e
  unfold exB at e
  rw [List.all_eq_true] at e
  exact e b (List.mem_of_getElem? h)
theorem g_BadText (Y : Fs K mg) : mg "BadText" = some (.ref (He.ga K "BadText")) := let ⟨_, x, g⟩ := Y.X; He.glo_ok x g (Y.c.fact 0 (f := .glo "BadText") rfl)
theorem g_DOUBLE_SIGNS (Y : Fs K mg) : mg "DOUBLE_SIGNS" = some (.ref (He.ga K "DOUBLE_SIGNS")) := let ⟨_, x, g⟩ := Y.X; He.glo_ok x g (Y.c.fact 1 (f := .glo "DOUBLE_SIGNS") rfl)
theorem g_OTHER_WORDS (Y : Fs K mg) : mg "OTHER_WORDS" = some (.ref (He.ga K "OTHER_WORDS")) := let ⟨_, x, g⟩ := Y.X; He.glo_ok x g (Y.c.fact 2 (f := .glo "OTHER_WORDS") rfl)
theorem g_PLAIN_WORDS (Y : Fs K mg) : mg "PLAIN_WORDS" = some (.ref (He.ga K "PLAIN_WORDS")) := let ⟨_, x, g⟩ := Y.X; He.glo_ok x g (Y.c.fact 3 (f := .glo "PLAIN_WORDS") rfl)
theorem g__law_cut_told (Y : Fs K mg) : mg "_law_cut_told" = some (.ref (He.ga K "_law_cut_told")) := let ⟨_, x, g⟩ := Y.X; He.glo_ok x g (Y.c.fact 4 (f := .glo "_law_cut_told") rfl)
theorem g__law_end_of (Y : Fs K mg) : mg "_law_end_of" = some (.ref (He.ga K "_law_end_of")) := let ⟨_, x, g⟩ := Y.X; He.glo_ok x g (Y.c.fact 5 (f := .glo "_law_end_of") rfl)
theorem g__law_hand (Y : Fs K mg) : mg "_law_hand" = some (.ref (He.ga K "_law_hand")) := let ⟨_, x, g⟩ := Y.X; He.glo_ok x g (Y.c.fact 6 (f := .glo "_law_hand") rfl)
theorem g__law_mixed (Y : Fs K mg) : mg "_law_mixed" = some (.ref (He.ga K "_law_mixed")) := let ⟨_, x, g⟩ := Y.X; He.glo_ok x g (Y.c.fact 7 (f := .glo "_law_mixed") rfl)
theorem g__law_piece (Y : Fs K mg) : mg "_law_piece" = some (.ref (He.ga K "_law_piece")) := let ⟨_, x, g⟩ := Y.X; He.glo_ok x g (Y.c.fact 8 (f := .glo "_law_piece") rfl)
theorem g__law_sign_at (Y : Fs K mg) : mg "_law_sign_at" = some (.ref (He.ga K "_law_sign_at")) := let ⟨_, x, g⟩ := Y.X; He.glo_ok x g (Y.c.fact 9 (f := .glo "_law_sign_at") rfl)
theorem g__law_take (Y : Fs K mg) : mg "_law_take" = some (.ref (He.ga K "_law_take")) := let ⟨_, x, g⟩ := Y.X; He.glo_ok x g (Y.c.fact 10 (f := .glo "_law_take") rfl)
theorem g__law_whole (Y : Fs K mg) : mg "_law_whole" = some (.ref (He.ga K "_law_whole")) := let ⟨_, x, g⟩ := Y.X; He.glo_ok x g (Y.c.fact 11 (f := .glo "_law_whole") rfl)
theorem g_cut_text (Y : Fs K mg) : mg "cut_text" = some (.ref (He.ga K "cut_text")) := let ⟨_, x, g⟩ := Y.X; He.glo_ok x g (Y.c.fact 12 (f := .glo "cut_text") rfl)
theorem g_end_of_run (Y : Fs K mg) : mg "end_of_run" = some (.ref (He.ga K "end_of_run")) := let ⟨_, x, g⟩ := Y.X; He.glo_ok x g (Y.c.fact 13 (f := .glo "end_of_run") rfl)
theorem g_is_keyword (Y : Fs K mg) : mg "is_keyword" = some (.ref (He.ga K "is_keyword")) := let ⟨_, x, g⟩ := Y.X; He.glo_ok x g (Y.c.fact 14 (f := .glo "is_keyword") rfl)
theorem g_is_name (Y : Fs K mg) : mg "is_name" = some (.ref (He.ga K "is_name")) := let ⟨_, x, g⟩ := Y.X; He.glo_ok x g (Y.c.fact 15 (f := .glo "is_name") rfl)
theorem g_law (Y : Fs K mg) : mg "law" = some (.ref (He.ga K "law")) := let ⟨_, x, g⟩ := Y.X; He.glo_ok x g (Y.c.fact 16 (f := .glo "law") rfl)
theorem g_number_token (Y : Fs K mg) : mg "number_token" = some (.ref (He.ga K "number_token")) := let ⟨_, x, g⟩ := Y.X; He.glo_ok x g (Y.c.fact 17 (f := .glo "number_token") rfl)
theorem g_open_behind (Y : Fs K mg) : mg "open_behind" = some (.ref (He.ga K "open_behind")) := let ⟨_, x, g⟩ := Y.X; He.glo_ok x g (Y.c.fact 18 (f := .glo "open_behind") rfl)
theorem g_sign_token (Y : Fs K mg) : mg "sign_token" = some (.ref (He.ga K "sign_token")) := let ⟨_, x, g⟩ := Y.X; He.glo_ok x g (Y.c.fact 19 (f := .glo "sign_token") rfl)
theorem g_word_token (Y : Fs K mg) : mg "word_token" = some (.ref (He.ga K "word_token")) := let ⟨_, x, g⟩ := Y.X; He.glo_ok x g (Y.c.fact 20 (f := .glo "word_token") rfl)
theorem n_abs (Y : Fs K mg) : mg "abs" = none := let ⟨_, x, g⟩ := Y.X; He.free_ok x g (Y.c.fact 21 (f := .free "abs") rfl)
theorem n_all (Y : Fs K mg) : mg "all" = none := let ⟨_, x, g⟩ := Y.X; He.free_ok x g (Y.c.fact 22 (f := .free "all") rfl)
theorem n_bool (Y : Fs K mg) : mg "bool" = none := let ⟨_, x, g⟩ := Y.X; He.free_ok x g (Y.c.fact 23 (f := .free "bool") rfl)
theorem n_int (Y : Fs K mg) : mg "int" = none := let ⟨_, x, g⟩ := Y.X; He.free_ok x g (Y.c.fact 24 (f := .free "int") rfl)
theorem n_isinstance (Y : Fs K mg) : mg "isinstance" = none := let ⟨_, x, g⟩ := Y.X; He.free_ok x g (Y.c.fact 25 (f := .free "isinstance") rfl)
theorem n_len (Y : Fs K mg) : mg "len" = none := let ⟨_, x, g⟩ := Y.X; He.free_ok x g (Y.c.fact 26 (f := .free "len") rfl)
theorem n_list (Y : Fs K mg) : mg "list" = none := let ⟨_, x, g⟩ := Y.X; He.free_ok x g (Y.c.fact 27 (f := .free "list") rfl)
theorem n_max (Y : Fs K mg) : mg "max" = none := let ⟨_, x, g⟩ := Y.X; He.free_ok x g (Y.c.fact 28 (f := .free "max") rfl)
theorem n_range (Y : Fs K mg) : mg "range" = none := let ⟨_, x, g⟩ := Y.X; He.free_ok x g (Y.c.fact 29 (f := .free "range") rfl)
theorem n_str (Y : Fs K mg) : mg "str" = none := let ⟨_, x, g⟩ := Y.X; He.free_ok x g (Y.c.fact 30 (f := .free "str") rfl)
theorem n_tuple (Y : Fs K mg) : mg "tuple" = none := let ⟨_, x, g⟩ := Y.X; He.free_ok x g (Y.c.fact 31 (f := .free "tuple") rfl)
theorem gi_MOST_OPEN (Y : Fs K mg) : ∃ t, mg "MOST_OPEN" = some (.int 20 t) := let ⟨_, x, g⟩ := Y.X; He.int_ok x g (Y.c.fact 32 (f := .int "MOST_OPEN" 20) rfl)
theorem gi_MOST_SIGNS (Y : Fs K mg) : ∃ t, mg "MOST_SIGNS" = some (.int 8 t) := let ⟨_, x, g⟩ := Y.X; He.int_ok x g (Y.c.fact 33 (f := .int "MOST_SIGNS" 8) rfl)
theorem gs_FIGURES (Y : Fs K mg) : ∃ t, mg "FIGURES" = some (.str "0123456789" t) := let ⟨_, x, g⟩ := Y.X; He.str_ok x g (Y.c.fact 34 (f := .str "FIGURES" "0123456789") rfl)
theorem gs_LETTERS (Y : Fs K mg) : ∃ t, mg "LETTERS" = some (.str "abcdefghijklmnopqrstuvwxyz" t) := let ⟨_, x, g⟩ := Y.X; He.str_ok x g (Y.c.fact 35 (f := .str "LETTERS" "abcdefghijklmnopqrstuvwxyz") rfl)
theorem gs_SINGLE_SIGNS (Y : Fs K mg) : ∃ t, mg "SINGLE_SIGNS" = some (.str "{}()[],;=+-*&|^<" t) := let ⟨_, x, g⟩ := Y.X; He.str_ok x g (Y.c.fact 36 (f := .str "SINGLE_SIGNS" "{}()[],;=+-*&|^<") rfl)
theorem gt_DOUBLE_SIGNS (Y : Fs K mg) (H : Hp) : Rep K H (.tup [.str "==", .str "<<", .str ">>", .str "+=", .str "-=", .str "^="]) (.ref (He.ga K "DOUBLE_SIGNS")) := by
  simp only [Rep]
  exact ⟨_, _, rfl, He.tupB_ok (Y.ex 0 rfl) H, by simp [RepL, Rep, He.Dv.v]⟩
theorem gt_OTHER_WORDS (Y : Fs K mg) (H : Hp) : Rep K H (.tup [.str "routine", .str "from", .str "loop", .str "until", .str "fi", .str "local", .str "end", .str "call", .str "back"]) (.ref (He.ga K "OTHER_WORDS")) := by
  simp only [Rep]
  exact ⟨_, _, rfl, He.tupB_ok (Y.ex 1 rfl) H, by simp [RepL, Rep, He.Dv.v]⟩
theorem gt_PLAIN_WORDS (Y : Fs K mg) (H : Hp) : Rep K H (.tup [.str "fun", .str "let", .str "repeat", .str "if", .str "else", .str "give", .str "pick", .str "table"]) (.ref (He.ga K "PLAIN_WORDS")) := by
  simp only [Rep]
  exact ⟨_, _, rfl, He.tupB_ok (Y.ex 2 rfl) H, by simp [RepL, Rep, He.Dv.v]⟩
theorem na_BadText_spot (Y : Fs K mg) : PySem.W.findIn K (.ref (He.ga K "BadText")) "spot" = some none := He.noat_ok (Y.c.fact 39 (f := .noat "BadText" "spot") rfl)
theorem na_BadText_what (Y : Fs K mg) : PySem.W.findIn K (.ref (He.ga K "BadText")) "what" = some none := He.noat_ok (Y.c.fact 40 (f := .noat "BadText" "what") rfl)
theorem xf_BadText (Y : Fs K mg) : XfC K (He.ga K "BadText") := xfB_ok (Y.ex 5 rfl)
theorem mm_BadText (Y : Fs K mg) : UI.Meets K m_BadText (.ref (He.ga K "BadText")) := meets_cons (He.exm_ok (Y.c.fact 37 (f := .exm "BadText" "BadText" true) rfl)) (meets_cons (He.exm_ok (Y.c.fact 38 (f := .exm "UndoError" "BadText" false) rfl)) (meets_nil))
theorem sc_BadText : FnScope ["self", "spot", "what"] ["self", "spot", "what"] (defScope (mth 2 0)) := ⟨rfl, rfl, rfl, by decide +kernel, rfl, by decide +kernel, by decide +kernel⟩
theorem xi_BadText (Y : Fs K mg) : XcI P w K mg base 1 "BadText" ["spot", "what"] := by
  obtain ⟨fd, Fd⟩ := Y.c.def_ 17 (d := dd17) rfl
  refine ⟨fd, ["self", "spot", "what"], ini_ok (k := 0) Fd sc_BadText rfl (by decide) (fun cdv A outer s H E hr => ?_), Fd.bindsN fun _ _ _ _ _ _ us hl => match us, hl with | [_, _, _], _ => rfl, oexB_ok (Y.ex 3 rfl), Y.ex 4 rfl, g_BadText Y, ?_⟩
  · exact pss_cons (ps_ost (pv 0) (pv 1)) (pss_cons (ps_ost (pv 0) (pv 2)) (pss_nil))
  · simp only [List.forall_mem_cons, List.not_mem_nil, false_imp_iff, implies_true, and_true]
    exact ⟨na_BadText_spot Y, na_BadText_what Y⟩
theorem sc_is_keyword : FnScope ["word"] ["word"] (defScope (top 12)) := ⟨rfl, rfl, rfl, by decide +kernel, rfl, by decide +kernel, by decide +kernel⟩
theorem ok_is_keyword (Y : Fs K mg) : FnI P w K mg base 1 "is_keyword" F_is_keyword 1 := by
  obtain ⟨fd, Fd⟩ := Y.c.def_ 0 (d := dd0) rfl
  refine ⟨_, fd, ["word"], fn_ok (N := ["word"]) (k := 0) (c := c_is_keyword) Fd sc_is_keyword mkF_ok (fun cdv A outer s H E hr => ?_), g_is_keyword Y, Fd.kp, Fd.bindsN fun _ _ _ _ _ _ us hl => match us, hl with | [_], _ => rfl, fun os S h => (mkF_ok os S h).1⟩
  have hu := hu_of hr
  have nd := (sc_is_keyword).nd
  exact ss_one (ss_ret (se_or (wCmp hu (wSlot 0) (wGD (g_PLAIN_WORDS Y) (gt_PLAIN_WORDS Y))) (pe_one (wCmp hu (wSlot 0) (wGD (g_OTHER_WORDS Y) (gt_OTHER_WORDS Y))))))
theorem sc_is_name : FnScope ["text", "sign"] ["text"] (defScope (top 13)) := ⟨rfl, rfl, rfl, by decide +kernel, rfl, by decide +kernel, by decide +kernel⟩
theorem ok_is_name (Y : Fs K mg) : FnI P w K mg base 2 "is_name" F_is_name 1 := by
  obtain ⟨fd, Fd⟩ := Y.c.def_ 1 (d := dd1) rfl
  refine ⟨_, fd, ["text"], fn_ok (N := ["text", "sign"]) (k := 1) (c := c_is_name) Fd sc_is_name mkF_ok (fun cdv A outer s H E hr => ?_), g_is_name Y, Fd.kp, Fd.bindsN fun _ _ _ _ _ _ us hl => match us, hl with | [_], _ => rfl, fun os S h => (mkF_ok os S h).1⟩
  have hu := hu_of hr
  have nd := (sc_is_name).nd
  exact ss_cons (ss_if (PW.pt (st_or (st_not (vVal (wCallB cb_isi (n_isinstance Y) (wA (wSlot 0) (wA (wTy "str" (n_str Y)) (sa_nil)))))) (st_or (vCmp hu (wCallB cb_len (n_len Y) (wA (wSlot 0) (sa_nil))) (wInt)) (st_or (vCmp hu (wCallB cb_len (n_len Y) (wA (wSlot 0) (sa_nil))) (wGI (gi_MOST_SIGNS Y))) (pw_or1 (vCmp hu (wIx (wSlot 0) (wInt)) (wGS (gs_LETTERS Y)))))))) (ss_one (ss_ret (wBl))) (ss_next_nil)) (ss_one (ss_ret (se_and (wCallB (cb_all rfl) (n_all Y) (wA (wComp [("sign", 1)] nd rfl (sg_name) (sgw_name (by decide)) (si_val (wSlot 0)) (fun _ _ _ _ _ => wGn 1 nd) (fun _ _ _ _ _ => noIfs) (fun _ _ _ _ _ => se_or (wCmp hu (wSlot 1) (wGS (gs_LETTERS Y))) (pe_one (wCmp hu (wSlot 1) (wGS (gs_FIGURES Y)))))) (sa_nil))) (pe_one (se_not (wCall ((ok_is_keyword Y).mono (by decide)) hr tk_top (wA (wSlot 0) (sa_nil))))))))
theorem sc_end_of_run : FnScope ["text", "start", "signs", "at"] ["text", "start", "signs"] (defScope (top 14)) := ⟨rfl, rfl, rfl, by decide +kernel, rfl, by decide +kernel, by decide +kernel⟩
theorem ok_end_of_run (Y : Fs K mg) : FnI P w K mg base 1 "end_of_run" F_end_of_run 3 := by
  obtain ⟨fd, Fd⟩ := Y.c.def_ 2 (d := dd2) rfl
  refine ⟨_, fd, ["text", "start", "signs"], fn_ok (N := ["text", "start", "signs", "at"]) (k := 0) (c := c_end_of_run) Fd sc_end_of_run mkF_ok (fun cdv A outer s H E hr => ?_), g_end_of_run Y, Fd.kp, Fd.bindsN fun _ _ _ _ _ _ us hl => match us, hl with | [_, _, _], _ => rfl, fun os S h => (mkF_ok os S h).1⟩
  have hu := hu_of hr
  have nd := (sc_end_of_run).nd
  exact ss_cons (wSet 3 nd (wSlot 1)) (ss_cons (ss_while hp_top (PW.pt (st_and (vCmp hu (wSlot 3) (wCallB cb_len (n_len Y) (wA (wSlot 0) (sa_nil)))) (pw_and1 (vCmp hu (wIx (wSlot 0) (wSlot 3)) (wSlot 2))))) (ss_one (wSet 3 nd (se_bin (wSlot 3) (wInt))))) (ss_one (ss_ret (wSlot 3))))
theorem sc_word_token : FnScope ["text", "start", "word"] ["text", "start"] (defScope (top 15)) := ⟨rfl, rfl, rfl, by decide +kernel, rfl, by decide +kernel, by decide +kernel⟩
theorem ok_word_token (Y : Fs K mg) : FnI P w K mg base 3 "word_token" F_word_token 2 := by
  obtain ⟨fd, Fd⟩ := Y.c.def_ 3 (d := dd3) rfl
  refine ⟨_, fd, ["text", "start"], fn_ok (N := ["text", "start", "word"]) (k := 2) (c := c_word_token) Fd sc_word_token mkF_ok (fun cdv A outer s H E hr => ?_), g_word_token Y, Fd.kp, Fd.bindsN fun _ _ _ _ _ _ us hl => match us, hl with | [_, _], _ => rfl, fun os S h => (mkF_ok os S h).1⟩
  have hu := hu_of hr
  have nd := (sc_word_token).nd
  exact ss_cons (wSet 2 nd (se_sl (wSlot 0) (so_some (wSlot 1)) (so_some (wCall ((ok_end_of_run Y).mono (by decide)) hr tk_top (wA (wSlot 0) (wA (wSlot 1) (wA (se_bin (wGS (gs_LETTERS Y)) (wGS (gs_FIGURES Y))) (sa_nil)))))))) (ss_cons (ss_if (vCmp hu (wCallB cb_len (n_len Y) (wA (wSlot 2) (sa_nil))) (wGI (gi_MOST_SIGNS Y))) (ss_one (ss_raiseI (xi_BadText Y) (hr.mono (by decide)) rfl tk_top (by decide) (by decide) (wL (wSlot 1) (wL (wStr) (sl_nil))))) (ss_next_nil)) (ss_one (ss_ret (se_tup (wL (se_if (vVal (wCall ((ok_is_keyword Y).mono (by decide)) hr tk_top (wA (wSlot 2) (sa_nil)))) (wStr) (wStr)) (wL (wSlot 2) (wL (wSlot 1) (sl_nil))))))))
theorem sc_number_token : FnScope ["text", "start", "end", "row"] ["text", "start", "end"] (defScope (top 16)) := ⟨rfl, rfl, rfl, by decide +kernel, rfl, by decide +kernel, by decide +kernel⟩
theorem ok_number_token (Y : Fs K mg) : FnI P w K mg base 3 "number_token" F_number_token 3 := by
  obtain ⟨fd, Fd⟩ := Y.c.def_ 4 (d := dd4) rfl
  refine ⟨_, fd, ["text", "start", "end"], fn_ok (N := ["text", "start", "end", "row"]) (k := 2) (c := c_number_token) Fd sc_number_token mkF_ok (fun cdv A outer s H E hr => ?_), g_number_token Y, Fd.kp, Fd.bindsN fun _ _ _ _ _ _ us hl => match us, hl with | [_, _, _], _ => rfl, fun os S h => (mkF_ok os S h).1⟩
  have hu := hu_of hr
  have nd := (sc_number_token).nd
  exact ss_cons (wSet 3 nd (se_sl (wSlot 0) (so_some (wSlot 1)) (so_some (wSlot 2)))) (ss_cons (ss_if (PW.pt (st_or (vCmp hu (wCallB cb_len (n_len Y) (wA (wSlot 3) (sa_nil))) (wInt)) (st_or (PW.pt (st_and (vCmp hu (wCallB cb_len (n_len Y) (wA (wSlot 3) (sa_nil))) (wInt)) (pw_and1 (vCmp hu (wIx (wSlot 3) (wInt)) (wStr))))) (pw_or1 (vCmp hu (wCallTy cb_int (n_int Y) (wA (wSlot 3) (sa_nil))) (wInt)))))) (ss_one (ss_raiseI (xi_BadText Y) (hr.mono (by decide)) rfl tk_top (by decide) (by decide) (wL (wSlot 1) (wL (wStr) (sl_nil))))) (ss_next_nil)) (ss_one (ss_ret (se_tup (wL (wStr) (wL (wCallTy cb_int (n_int Y) (wA (wSlot 3) (sa_nil))) (wL (wSlot 1) (sl_nil))))))))
theorem sc_sign_token : FnScope ["text", "start"] ["text", "start"] (defScope (top 17)) := ⟨rfl, rfl, rfl, by decide +kernel, rfl, by decide +kernel, by decide +kernel⟩
theorem ok_sign_token (Y : Fs K mg) : FnI P w K mg base 3 "sign_token" F_sign_token 2 := by
  obtain ⟨fd, Fd⟩ := Y.c.def_ 5 (d := dd5) rfl
  refine ⟨_, fd, ["text", "start"], fn_ok (N := ["text", "start"]) (k := 2) (c := c_sign_token) Fd sc_sign_token mkF_ok (fun cdv A outer s H E hr => ?_), g_sign_token Y, Fd.kp, Fd.bindsN fun _ _ _ _ _ _ us hl => match us, hl with | [_, _], _ => rfl, fun os S h => (mkF_ok os S h).1⟩
  have hu := hu_of hr
  have nd := (sc_sign_token).nd
  exact ss_cons (ss_if (vCmp hu (se_sl (wSlot 0) (so_some (wSlot 1)) (so_some (se_bin (wSlot 1) (wInt)))) (wStr)) (ss_one (ss_ret (se_tup (wL (wStr) (wL (wStr) (wL (wSlot 1) (sl_nil))))))) (ss_next_nil)) (ss_cons (ss_if (vCmp hu (se_sl (wSlot 0) (so_some (wSlot 1)) (so_some (se_bin (wSlot 1) (wInt)))) (wGD (g_DOUBLE_SIGNS Y) (gt_DOUBLE_SIGNS Y))) (ss_one (ss_ret (se_tup (wL (wStr) (wL (se_sl (wSlot 0) (so_some (wSlot 1)) (so_some (se_bin (wSlot 1) (wInt)))) (wL (wSlot 1) (sl_nil))))))) (ss_next_nil)) (ss_cons (ss_if (vCmp hu (wIx (wSlot 0) (wSlot 1)) (wGS (gs_SINGLE_SIGNS Y))) (ss_one (ss_ret (se_tup (wL (wStr) (wL (wIx (wSlot 0) (wSlot 1)) (wL (wSlot 1) (sl_nil))))))) (ss_next_nil)) (ss_one (ss_raiseI (xi_BadText Y) (hr.mono (by decide)) rfl tk_top (by decide) (by decide) (wL (wSlot 1) (wL (wStr) (sl_nil)))))))
theorem sc_open_behind : FnScope ["sign", "many"] ["sign", "many"] (defScope (top 18)) := ⟨rfl, rfl, rfl, by decide +kernel, rfl, by decide +kernel, by decide +kernel⟩
theorem ok_open_behind (Y : Fs K mg) : FnI P w K mg base 1 "open_behind" F_open_behind 2 := by
  obtain ⟨fd, Fd⟩ := Y.c.def_ 6 (d := dd6) rfl
  refine ⟨_, fd, ["sign", "many"], fn_ok (N := ["sign", "many"]) (k := 0) (c := c_open_behind) Fd sc_open_behind mkF_ok (fun cdv A outer s H E hr => ?_), g_open_behind Y, Fd.kp, Fd.bindsN fun _ _ _ _ _ _ us hl => match us, hl with | [_, _], _ => rfl, fun os S h => (mkF_ok os S h).1⟩
  have hu := hu_of hr
  have nd := (sc_open_behind).nd
  exact ss_cons (ss_if (vCmp hu (wSlot 0) (se_tup (wL (wStr) (wL (wStr) (wL (wStr) (sl_nil)))))) (ss_one (ss_ret (se_bin (wSlot 1) (wInt)))) (ss_next_nil)) (ss_cons (ss_if (PW.pt (st_and (vCmp hu (wSlot 0) (se_tup (wL (wStr) (wL (wStr) (wL (wStr) (sl_nil)))))) (pw_and1 (vCmp hu (wSlot 1) (wInt))))) (ss_one (ss_ret (se_bin (wSlot 1) (wInt)))) (ss_next_nil)) (ss_one (ss_ret (wSlot 1))))
theorem sc_cut_text : FnScope ["text", "most", "tokens", "at", "many", "token", "end"] ["text", "most"] (defScope (top 19)) := ⟨rfl, rfl, rfl, by decide +kernel, rfl, by decide +kernel, by decide +kernel⟩
theorem ok_cut_text (Y : Fs K mg) : FnI P w K mg base 4 "cut_text" F_cut_text 2 := by
  obtain ⟨fd, Fd⟩ := Y.c.def_ 7 (d := dd7) rfl
  refine ⟨_, fd, ["text", "most"], fn_ok (N := ["text", "most", "tokens", "at", "many", "token", "end"]) (k := 3) (c := c_cut_text) Fd sc_cut_text mkF_ok (fun cdv A outer s H E hr => ?_), g_cut_text Y, Fd.kp, Fd.bindsN fun _ _ _ _ _ _ us hl => match us, hl with | [_, _], _ => rfl, fun os S h => (mkF_ok os S h).1⟩
  have hu := hu_of hr
  have nd := (sc_cut_text).nd
  exact ss_cons (ss_if (st_not (vVal (wCallB cb_isi (n_isinstance Y) (wA (wSlot 0) (wA (wTy "str" (n_str Y)) (sa_nil)))))) (ss_one (ss_raiseI (xi_BadText Y) (hr.mono (by decide)) rfl tk_top (by decide) (by decide) (wL (se_un (wInt)) (wL (wStr) (sl_nil))))) (ss_next_nil)) (ss_cons (ss_if (vCmp hu (wCallB cb_len (n_len Y) (wA (wSlot 0) (sa_nil))) (wSlot 1)) (ss_one (ss_raiseI (xi_BadText Y) (hr.mono (by decide)) rfl tk_top (by decide) (by decide) (wL (se_un (wInt)) (wL (wStr) (sl_nil))))) (ss_next_nil)) (ss_cons (wSetM 2 nd (se_lst (sl_nil))) (ss_cons (wSet 3 nd (wInt)) (ss_cons (wSet 4 nd (wInt)) (ss_cons (ss_while hp_top (vCmp hu (wSlot 3) (wCallB cb_len (n_len Y) (wA (wSlot 0) (sa_nil)))) (ss_cons (ss_if (vCmp hu (wIx (wSlot 0) (wSlot 3)) (wStr)) (ss_cons (wSet 3 nd (se_bin (wSlot 3) (wInt))) (ss_one (ss_ct))) (ss_next_nil)) (ss_cons (ss_if (vCmp hu (wIx (wSlot 0) (wSlot 3)) (wGS (gs_LETTERS Y))) (ss_cons (wSet 5 nd (wCall ((ok_word_token Y).mono (by decide)) hr tk_top (wA (wSlot 0) (wA (wSlot 3) (sa_nil))))) (ss_one (wSet 3 nd (se_bin (wSlot 3) (wCallB cb_len (n_len Y) (wA (wIx (wSlot 5) (wInt)) (sa_nil))))))) (ss_one (ss_if (vCmp hu (wIx (wSlot 0) (wSlot 3)) (wGS (gs_FIGURES Y))) (ss_cons (wSet 6 nd (wCall ((ok_end_of_run Y).mono (by decide)) hr tk_top (wA (wSlot 0) (wA (wSlot 3) (wA (wGS (gs_FIGURES Y)) (sa_nil)))))) (ss_cons (wSet 5 nd (wCall ((ok_number_token Y).mono (by decide)) hr tk_top (wA (wSlot 0) (wA (wSlot 3) (wA (wSlot 6) (sa_nil)))))) (ss_one (wSet 3 nd (wSlot 6))))) (ss_cons (wSet 5 nd (wCall ((ok_sign_token Y).mono (by decide)) hr tk_top (wA (wSlot 0) (wA (wSlot 3) (sa_nil))))) (ss_cons (wSet 4 nd (wCall ((ok_open_behind Y).mono (by decide)) hr tk_top (wA (wIx (wSlot 5) (wInt)) (wA (wSlot 4) (sa_nil))))) (ss_cons (ss_if (vCmp hu (wSlot 4) (wGI (gi_MOST_OPEN Y))) (ss_one (ss_raiseI (xi_BadText Y) (hr.mono (by decide)) rfl tk_top (by decide) (by decide) (wL (wSlot 3) (wL (wStr) (sl_nil))))) (ss_next_nil)) (ss_one (wSet 3 nd (se_bin (wSlot 3) (wCallB cb_len (n_len Y) (wA (wIx (wSlot 5) (wInt)) (sa_nil)))))))))))) (ss_one (wApp 2 (wSlot 5)))))) (ss_cons (wApp 2 (se_tup (wL (wStr) (wL (wStr) (wL (wCallB cb_len (n_len Y) (wA (wSlot 0) (sa_nil))) (sl_nil)))))) (ss_one (ss_ret (wCallTy cb_tuple (n_tuple Y) (wA (wSlot 2) (sa_nil)))))))))))
theorem sc__law_hand : FnScope ["_law_script", "_law_total", "_law_cells", "_law_cell"] ["_law_script"] (defScope (top 21)) := ⟨rfl, rfl, rfl, by decide +kernel, rfl, by decide +kernel, by decide +kernel⟩
theorem ok__law_hand (Y : Fs K mg) : FnI P w K mg base 1 "_law_hand" F__law_hand 1 := by
  obtain ⟨fd, Fd⟩ := Y.c.def_ 8 (d := dd8) rfl
  refine ⟨_, fd, ["_law_script"], fn_ok (N := ["_law_script", "_law_total", "_law_cells", "_law_cell"]) (k := 0) (c := c__law_hand) Fd sc__law_hand mkF_ok (fun cdv A outer s H E hr => ?_), g__law_hand Y, Fd.kp, Fd.bindsN fun _ _ _ _ _ _ us hl => match us, hl with | [_], _ => rfl, fun os S h => (mkF_ok os S h).1⟩
  have hu := hu_of hr
  have nd := (sc__law_hand).nd
  exact ss_cons (wSet 1 nd (se_bin (wCallB cb_len (n_len Y) (wA (wSlot 0) (sa_nil))) (wInt))) (ss_cons (wSetM 2 nd (se_lst (sl_nil))) (ss_cons (wFor hp_top rfl (si_val (wSlot 0)) (wGn 3 nd) (sg_name) (ss_cons (wSet 1 nd (se_bin (wCallTy cb_int (n_int Y) (wA (se_bin (se_bin (wSlot 1) (wInt)) (wCallTy cb_int (n_int Y) (wA (wSlot 3) (sa_nil)))) (sa_nil))) (wInt))) (ss_one (wApp 2 (wCallB cb_abs (n_abs Y) (wA (wCallTy cb_int (n_int Y) (wA (wSlot 3) (sa_nil))) (sa_nil))))))) (ss_one (ss_ret (se_lst (wL (wSlot 2) (wL (wInt) (wL (wInt) (wL (wSlot 1) (sl_nil))))))))))
theorem sc__law_mixed : FnScope ["_law_number", "_law_turn", "_law_once", "_law_twice"] ["_law_number", "_law_turn"] (defScope (top 22)) := ⟨rfl, rfl, rfl, by decide +kernel, rfl, by decide +kernel, by decide +kernel⟩
theorem ok__law_mixed (Y : Fs K mg) : FnI P w K mg base 1 "_law_mixed" F__law_mixed 2 := by
  obtain ⟨fd, Fd⟩ := Y.c.def_ 9 (d := dd9) rfl
  refine ⟨_, fd, ["_law_number", "_law_turn"], fn_ok (N := ["_law_number", "_law_turn", "_law_once", "_law_twice"]) (k := 0) (c := c__law_mixed) Fd sc__law_mixed mkF_ok (fun cdv A outer s H E hr => ?_), g__law_mixed Y, Fd.kp, Fd.bindsN fun _ _ _ _ _ _ us hl => match us, hl with | [_, _], _ => rfl, fun os S h => (mkF_ok os S h).1⟩
  have hu := hu_of hr
  have nd := (sc__law_mixed).nd
  exact ss_cons (wSet 2 nd (se_bin (wCallTy cb_int (n_int Y) (wA (se_bin (se_bin (se_bin (wSlot 0) (wInt)) (se_bin (wSlot 1) (wInt))) (wInt)) (sa_nil))) (wInt))) (ss_cons (wSet 3 nd (se_bin (wCallTy cb_int (n_int Y) (wA (se_bin (se_bin (se_bin (wSlot 2) (wSlot 2)) (se_bin (wSlot 1) (wInt))) (se_bin (wSlot 2) (wInt))) (sa_nil))) (wInt))) (ss_one (ss_ret (se_bin (wCallTy cb_int (n_int Y) (wA (se_bin (wCallTy cb_int (n_int Y) (wA (se_bin (se_bin (wSlot 3) (wInt)) (se_bin (wSlot 2) (wInt))) (sa_nil))) (wInt)) (sa_nil))) (wInt)))))
theorem sc__law_take : FnScope ["_law_hand_here", "_law_many", "_law_cell", "_law_rest"] ["_law_hand_here", "_law_many"] (defScope (top 23)) := ⟨rfl, rfl, rfl, by decide +kernel, rfl, by decide +kernel, by decide +kernel⟩
theorem ok__law_take (Y : Fs K mg) : FnI P w K mg base 2 "_law_take" F__law_take 2 := by
  obtain ⟨fd, Fd⟩ := Y.c.def_ 10 (d := dd10) rfl
  refine ⟨_, fd, ["_law_hand_here", "_law_many"], fn_ok (N := ["_law_hand_here", "_law_many", "_law_cell", "_law_rest"]) (k := 1) (c := c__law_take) Fd sc__law_take mkF_ok (fun cdv A outer s H E hr => ?_), g__law_take Y, Fd.kp, Fd.bindsN fun _ _ _ _ _ _ us hl => match us, hl with | [_, _], _ => rfl, fun os S h => (mkF_ok os S h).1⟩
  have hu := hu_of hr
  have nd := (sc__law_take).nd
  exact ss_cons (ss_if (PW.pt (st_and (vCmp hu (wIx (wSlot 0) (wInt)) (wInt)) (pw_and1 (vCmp hu (wIx (wSlot 0) (wInt)) (wCallB cb_len (n_len Y) (wA (wIx (wSlot 0) (wInt)) (sa_nil))))))) (ss_cons (wSet 2 nd (wIx (wIx (wSlot 0) (wInt)) (wIx (wSlot 0) (wInt)))) (ss_cons (wSetIx 0 (wInt) (se_bin (wIx (wSlot 0) (wInt)) (wInt))) (ss_cons (ss_if (vCmp hu (wSlot 2) (se_bin (wInt) (wInt))) (ss_one (ss_ret (se_bin (wCallTy cb_int (n_int Y) (wA (wCall ((ok__law_mixed Y).mono (by decide)) hr tk_top (wA (se_bin (wCallTy cb_int (n_int Y) (wA (wSlot 2) (sa_nil))) (wInt)) (wA (wIx (wSlot 0) (wInt)) (sa_nil)))) (sa_nil))) (wSlot 1)))) (ss_next_nil)) (ss_one (wSetIx 0 (wInt) (wSlot 2)))))) (ss_next_nil)) (ss_cons (ss_if (vCmp hu (wIx (wSlot 0) (wInt)) (wInt)) (ss_cons (wSet 3 nd (wIx (wSlot 0) (wInt))) (ss_cons (wSetIx 0 (wInt) (se_bin (wCallTy cb_int (n_int Y) (wA (wSlot 3) (sa_nil))) (wSlot 1))) (ss_one (ss_ret (se_bin (wCallTy cb_int (n_int Y) (wA (wSlot 3) (sa_nil))) (wSlot 1)))))) (ss_next_nil)) (ss_cons (wSetIx 0 (wInt) (se_bin (wCallTy cb_int (n_int Y) (wA (se_bin (wIx (wSlot 0) (wInt)) (wInt)) (sa_nil))) (wInt))) (ss_one (ss_ret (se_bin (wCallTy cb_int (n_int Y) (wA (wCall ((ok__law_mixed Y).mono (by decide)) hr tk_top (wA (wIx (wSlot 0) (wInt)) (wA (wIx (wSlot 0) (wInt)) (sa_nil)))) (sa_nil))) (wSlot 1))))))
theorem sc__law_whole : FnScope ["_law_thing"] ["_law_thing"] (defScope (top 24)) := ⟨rfl, rfl, rfl, by decide +kernel, rfl, by decide +kernel, by decide +kernel⟩
theorem ok__law_whole (Y : Fs K mg) : FnI P w K mg base 1 "_law_whole" F__law_whole 1 := by
  obtain ⟨fd, Fd⟩ := Y.c.def_ 11 (d := dd11) rfl
  refine ⟨_, fd, ["_law_thing"], fn_ok (N := ["_law_thing"]) (k := 0) (c := c__law_whole) Fd sc__law_whole mkF_ok (fun cdv A outer s H E hr => ?_), g__law_whole Y, Fd.kp, Fd.bindsN fun _ _ _ _ _ _ us hl => match us, hl with | [_], _ => rfl, fun os S h => (mkF_ok os S h).1⟩
  have hu := hu_of hr
  have nd := (sc__law_whole).nd
  exact ss_one (ss_ret (se_and (wCallB cb_isi (n_isinstance Y) (wA (wSlot 0) (wA (wTy "int" (n_int Y)) (sa_nil)))) (pe_one (se_not (wCallB cb_isi (n_isinstance Y) (wA (wSlot 0) (wA (wTy "bool" (n_bool Y)) (sa_nil))))))))
theorem sc__law_piece : FnScope ["_law_hand_here", "_law_at", "_law_words", "_law_letters", "_law_k"] ["_law_hand_here"] (defScope (top 25)) := ⟨rfl, rfl, rfl, by decide +kernel, rfl, by decide +kernel, by decide +kernel⟩
theorem ok__law_piece (Y : Fs K mg) : FnI P w K mg base 3 "_law_piece" F__law_piece 1 := by
  obtain ⟨fd, Fd⟩ := Y.c.def_ 12 (d := dd12) rfl
  refine ⟨_, fd, ["_law_hand_here"], fn_ok (N := ["_law_hand_here", "_law_at", "_law_words", "_law_letters", "_law_k"]) (k := 2) (c := c__law_piece) Fd sc__law_piece mkF_ok (fun cdv A outer s H E hr => ?_), g__law_piece Y, Fd.kp, Fd.bindsN fun _ _ _ _ _ _ us hl => match us, hl with | [_], _ => rfl, fun os S h => (mkF_ok os S h).1⟩
  have hu := hu_of hr
  have nd := (sc__law_piece).nd
  exact ss_cons (wSet 1 nd (wCall ((ok__law_take Y).mono (by decide)) hr tk_top (wA (wSlot 0) (wA (wInt) (sa_nil))))) (ss_cons (ss_if (vCmp hu (wSlot 1) (wInt)) (ss_cons (wSet 2 nd (se_lst (wL (wStr) (wL (wStr) (wL (wStr) (wL (wStr) (wL (wStr) (wL (wStr) (wL (wStr) (wL (wStr) (wL (wStr) (wL (wStr) (wL (wStr) (wL (wStr) (wL (wStr) (wL (wStr) (wL (wStr) (wL (wStr) (wL (wStr) (sl_nil)))))))))))))))))))) (ss_one (ss_ret (se_bin (wIx (wSlot 2) (wCall ((ok__law_take Y).mono (by decide)) hr tk_top (wA (wSlot 0) (wA (wInt) (sa_nil))))) (se_if (vCmp hu (wCall ((ok__law_take Y).mono (by decide)) hr tk_top (wA (wSlot 0) (wA (wInt) (sa_nil)))) (wInt)) (wStr) (wCallTy cb_str (n_str Y) (wA (wCall ((ok__law_take Y).mono (by decide)) hr tk_top (wA (wSlot 0) (wA (wInt) (sa_nil)))) (sa_nil)))))))) (ss_next_nil)) (ss_cons (ss_if (vCmp hu (wSlot 1) (wInt)) (ss_cons (wSet 3 nd (wJoin (wStr) (wComp [("_law_k", 4)] nd rfl (sg_name) (sgw_name (by decide)) (wRng1 (n_range Y) (se_if (vCmp hu (wCall ((ok__law_take Y).mono (by decide)) hr tk_top (wA (wSlot 0) (wA (wInt) (sa_nil)))) (wInt)) (wCall ((ok__law_take Y).mono (by decide)) hr tk_top (wA (wSlot 0) (wA (wInt) (sa_nil)))) (wInt))) (fun _ _ _ _ _ => wGn 4 nd) (fun _ _ _ _ _ => noIfs) (fun _ _ _ _ _ => wIx (wStr) (wCall ((ok__law_take Y).mono (by decide)) hr tk_W0 (wA (wSlot 0) (wA (wInt) (sa_nil)))))))) (ss_one (ss_ret (se_bin (wIx (wStr) (wCall ((ok__law_take Y).mono (by decide)) hr tk_top (wA (wSlot 0) (wA (wInt) (sa_nil))))) (wSlot 3))))) (ss_next_nil)) (ss_cons (ss_if (vCmp hu (wSlot 1) (wInt)) (ss_one (ss_ret (wCallTy cb_str (n_str Y) (wA (se_if (vCmp hu (wCall ((ok__law_take Y).mono (by decide)) hr tk_top (wA (wSlot 0) (wA (wInt) (sa_nil)))) (wInt)) (wCall ((ok__law_take Y).mono (by decide)) hr tk_top (wA (wSlot 0) (wA (wInt) (sa_nil)))) (wCall ((ok__law_take Y).mono (by decide)) hr tk_top (wA (wSlot 0) (wA (wInt) (sa_nil))))) (sa_nil))))) (ss_next_nil)) (ss_cons (ss_if (vCmp hu (wSlot 1) (wInt)) (ss_one (ss_ret (wIx (se_lst (wL (wStr) (wL (wStr) (wL (wStr) (wL (wStr) (wL (wStr) (wL (wStr) (wL (wStr) (sl_nil))))))))) (wCall ((ok__law_take Y).mono (by decide)) hr tk_top (wA (wSlot 0) (wA (wInt) (sa_nil))))))) (ss_next_nil)) (ss_cons (ss_if (PW.pt (st_and (vCmp hu (wSlot 1) (wInt)) (pw_and1 (vCmp hu (wCall ((ok__law_take Y).mono (by decide)) hr tk_top (wA (wSlot 0) (wA (wInt) (sa_nil)))) (wInt))))) (ss_one (ss_ret (wIx (wStr) (wCall ((ok__law_take Y).mono (by decide)) hr tk_top (wA (wSlot 0) (wA (wInt) (sa_nil))))))) (ss_next_nil)) (ss_one (ss_ret (wIx (se_lst (wL (wStr) (wL (wStr) (wL (wStr) (wL (wStr) (wL (wStr) (wL (wStr) (wL (wStr) (wL (wStr) (wL (wStr) (wL (wStr) (wL (wStr) (wL (wStr) (wL (wStr) (wL (wStr) (wL (wStr) (wL (wStr) (wL (wStr) (wL (wStr) (wL (wStr) (wL (wStr) (wL (wStr) (wL (wStr) (wL (wStr) (sl_nil))))))))))))))))))))))))) (wCall ((ok__law_take Y).mono (by decide)) hr tk_top (wA (wSlot 0) (wA (wInt) (sa_nil))))))))))))
theorem sc__law_end_of : FnScope ["_law_text", "_law_at", "_law_signs", "_law_k"] ["_law_text", "_law_at", "_law_signs"] (defScope (top 26)) := ⟨rfl, rfl, rfl, by decide +kernel, rfl, by decide +kernel, by decide +kernel⟩
theorem ok__law_end_of (Y : Fs K mg) : FnI P w K mg base 1 "_law_end_of" F__law_end_of 3 := by
  obtain ⟨fd, Fd⟩ := Y.c.def_ 13 (d := dd13) rfl
  refine ⟨_, fd, ["_law_text", "_law_at", "_law_signs"], fn_ok (N := ["_law_text", "_law_at", "_law_signs", "_law_k"]) (k := 0) (c := c__law_end_of) Fd sc__law_end_of mkF_ok (fun cdv A outer s H E hr => ?_), g__law_end_of Y, Fd.kp, Fd.bindsN fun _ _ _ _ _ _ us hl => match us, hl with | [_, _, _], _ => rfl, fun os S h => (mkF_ok os S h).1⟩
  have hu := hu_of hr
  have nd := (sc__law_end_of).nd
  exact ss_cons (wFor hp_top rfl (wRng2 (n_range Y) (wSlot 1) (wCallB cb_len (n_len Y) (wA (wSlot 0) (sa_nil)))) (wGn 3 nd) (sg_name) (ss_one (ss_if (vCmp hu (wIx (wSlot 0) (wSlot 3)) (wSlot 2)) (ss_one (ss_ret (wSlot 3))) (ss_next_nil)))) (ss_one (ss_ret (wCallB cb_len (n_len Y) (wA (wSlot 0) (sa_nil)))))
theorem sc__law_sign_at : FnScope ["_law_text", "_law_at", "_law_sign"] ["_law_text", "_law_at"] (defScope (top 27)) := ⟨rfl, rfl, rfl, by decide +kernel, rfl, by decide +kernel, by decide +kernel⟩
theorem ok__law_sign_at (Y : Fs K mg) : FnI P w K mg base 1 "_law_sign_at" F__law_sign_at 2 := by
  obtain ⟨fd, Fd⟩ := Y.c.def_ 14 (d := dd14) rfl
  refine ⟨_, fd, ["_law_text", "_law_at"], fn_ok (N := ["_law_text", "_law_at", "_law_sign"]) (k := 0) (c := c__law_sign_at) Fd sc__law_sign_at mkF_ok (fun cdv A outer s H E hr => ?_), g__law_sign_at Y, Fd.kp, Fd.bindsN fun _ _ _ _ _ _ us hl => match us, hl with | [_, _], _ => rfl, fun os S h => (mkF_ok os S h).1⟩
  have hu := hu_of hr
  have nd := (sc__law_sign_at).nd
  exact ss_cons (wFor hp_top rfl (si_val (se_lst (wL (wStr) (wL (wStr) (wL (wStr) (wL (wStr) (wL (wStr) (wL (wStr) (wL (wStr) (wL (wStr) (wL (wStr) (wL (wStr) (wL (wStr) (wL (wStr) (wL (wStr) (wL (wStr) (wL (wStr) (wL (wStr) (wL (wStr) (wL (wStr) (wL (wStr) (wL (wStr) (wL (wStr) (wL (wStr) (wL (wStr) (sl_nil)))))))))))))))))))))))))) (wGn 2 nd) (sg_name) (ss_one (ss_if (vCmp hu (se_sl (wSlot 0) (so_some (wSlot 1)) (so_some (se_bin (wSlot 1) (wCallB cb_len (n_len Y) (wA (wSlot 2) (sa_nil)))))) (wSlot 2)) (ss_one (ss_ret (wSlot 2))) (ss_next_nil)))) (ss_one (ss_ret (wStr)))
theorem sc__law_cut_told : FnScope ["_law_text", "_law_most", "_law_words", "_law_told", "_law_behind", "_law_many", "_law_at", "_law_word", "_law_row", "_law_sign"] ["_law_text", "_law_most"] (defScope (top 28)) := ⟨rfl, rfl, rfl, by decide +kernel, rfl, by decide +kernel, by decide +kernel⟩
theorem ok__law_cut_told (Y : Fs K mg) : FnI P w K mg base 2 "_law_cut_told" F__law_cut_told 2 := by
  obtain ⟨fd, Fd⟩ := Y.c.def_ 15 (d := dd15) rfl
  refine ⟨_, fd, ["_law_text", "_law_most"], fn_ok (N := ["_law_text", "_law_most", "_law_words", "_law_told", "_law_behind", "_law_many", "_law_at", "_law_word", "_law_row", "_law_sign"]) (k := 1) (c := c__law_cut_told) Fd sc__law_cut_told mkF_ok (fun cdv A outer s H E hr => ?_), g__law_cut_told Y, Fd.kp, Fd.bindsN fun _ _ _ _ _ _ us hl => match us, hl with | [_, _], _ => rfl, fun os S h => (mkF_ok os S h).1⟩
  have hu := hu_of hr
  have nd := (sc__law_cut_told).nd
  exact ss_cons (ss_if (vCmp hu (wCallB cb_len (n_len Y) (wA (wSlot 0) (sa_nil))) (wSlot 1)) (ss_one (ss_ret (se_tup (wL (se_tup (wL (se_un (wInt)) (wL (wStr) (sl_nil)))) (wL (se_lst (sl_nil)) (sl_nil)))))) (ss_next_nil)) (ss_cons (wSet 2 nd (wSplit (wStr) (wStr))) (ss_cons (wSetM 3 nd (se_lst (sl_nil))) (ss_cons (wSet 4 nd (wInt)) (ss_cons (wSet 5 nd (wInt)) (ss_cons (wFor hp_top rfl (wRng1 (n_range Y) (wCallB cb_len (n_len Y) (wA (wSlot 0) (sa_nil)))) (wGn 6 nd) (sg_name) (ss_cons (ss_if (PW.pt (st_or (vCmp hu (wSlot 6) (wSlot 4)) (pw_or1 (vCmp hu (wIx (wSlot 0) (wSlot 6)) (wStr))))) (ss_one (ss_ct)) (ss_next_nil)) (ss_one (ss_if (vCmp hu (wIx (wSlot 0) (wSlot 6)) (wStr)) (ss_cons (wSet 4 nd (wCall ((ok__law_end_of Y).mono (by decide)) hr tk_top (wA (wSlot 0) (wA (wSlot 6) (wA (wStr) (sa_nil)))))) (ss_cons (wSet 7 nd (se_sl (wSlot 0) (so_some (wSlot 6)) (so_some (wSlot 4)))) (ss_cons (ss_if (vCmp hu (wCallB cb_len (n_len Y) (wA (wSlot 7) (sa_nil))) (wInt)) (ss_one (ss_ret (se_tup (wL (se_tup (wL (wSlot 6) (wL (wStr) (sl_nil)))) (wL (se_lst (sl_nil)) (sl_nil)))))) (ss_next_nil)) (ss_one (wApp 3 (se_tup (wL (se_if (vCmp hu (wSlot 7) (wSlot 2)) (wStr) (wStr)) (wL (wSlot 7) (wL (wSlot 6) (sl_nil)))))))))) (ss_one (ss_if (vCmp hu (wIx (wSlot 0) (wSlot 6)) (wStr)) (ss_cons (wSet 4 nd (wCall ((ok__law_end_of Y).mono (by decide)) hr tk_top (wA (wSlot 0) (wA (wSlot 6) (wA (wStr) (sa_nil)))))) (ss_cons (wSet 8 nd (se_sl (wSlot 0) (so_some (wSlot 6)) (so_some (wSlot 4)))) (ss_cons (ss_if (PW.pt (st_or (vCmp hu (wCallB cb_len (n_len Y) (wA (wSlot 8) (sa_nil))) (wInt)) (st_or (PW.pt (st_and (vCmp hu (wIx (wSlot 8) (wInt)) (wStr)) (pw_and1 (vCmp hu (wCallB cb_len (n_len Y) (wA (wSlot 8) (sa_nil))) (wInt))))) (pw_or1 (vCmp hu (wCallTy cb_int (n_int Y) (wA (wSlot 8) (sa_nil))) (wInt)))))) (ss_one (ss_ret (se_tup (wL (se_tup (wL (wSlot 6) (wL (wStr) (sl_nil)))) (wL (se_lst (sl_nil)) (sl_nil)))))) (ss_next_nil)) (ss_one (wApp 3 (se_tup (wL (wStr) (wL (wCallTy cb_int (n_int Y) (wA (wSlot 8) (sa_nil))) (wL (wSlot 6) (sl_nil)))))))))) (ss_cons (wSet 9 nd (wCall ((ok__law_sign_at Y).mono (by decide)) hr tk_top (wA (wSlot 0) (wA (wSlot 6) (sa_nil))))) (ss_cons (ss_if (vCmp hu (wSlot 9) (wStr)) (ss_one (ss_ret (se_tup (wL (se_tup (wL (wSlot 6) (wL (wStr) (sl_nil)))) (wL (se_lst (sl_nil)) (sl_nil)))))) (ss_next_nil)) (ss_cons (ss_if (vCmp hu (wSlot 9) (wStr)) (ss_one (wSet 5 nd (se_bin (wSlot 5) (wInt)))) (ss_next_nil)) (ss_cons (ss_if (vCmp hu (wSlot 9) (wStr)) (ss_one (wSet 5 nd (wCallB (cb_max2 rfl) (n_max Y) (wA (wInt) (wA (se_bin (wSlot 5) (wInt)) (sa_nil)))))) (ss_next_nil)) (ss_cons (ss_if (vCmp hu (wSlot 5) (wInt)) (ss_one (ss_ret (se_tup (wL (se_tup (wL (wSlot 6) (wL (wStr) (sl_nil)))) (wL (se_lst (sl_nil)) (sl_nil)))))) (ss_next_nil)) (ss_cons (wApp 3 (se_tup (wL (wStr) (wL (wSlot 9) (wL (wSlot 6) (sl_nil)))))) (ss_one (wSet 4 nd (se_bin (wSlot 6) (wCallB cb_len (n_len Y) (wA (wSlot 9) (sa_nil)))))))))))))))))) (ss_one (ss_ret (se_tup (wL (wNon) (wL (se_bin (wSlot 3) (se_lst (wL (se_tup (wL (wStr) (wL (wStr) (wL (wCallB cb_len (n_len Y) (wA (wSlot 0) (sa_nil))) (sl_nil))))) (sl_nil)))) (sl_nil)))))))))))
theorem sc_law : FnScope ["_law_script", "_law_hand_here", "_law_pieces", "_law_text", "_law_most", "_law_fault", "_law_told", "_law_found", "_law_tokens", "e", "_law_token", "_law_piece_here", "_law_alone", "_law_due", "_law_good", "_law_k"] ["_law_script"] (defScope (top 29)) := ⟨rfl, rfl, rfl, by decide +kernel, rfl, by decide +kernel, by decide +kernel⟩
theorem okL_law (Y : Fs K mg) {fd : FuncData} (Fd : FunD K dd16.name dd16.qual dd16.params dd16.body dd16.scope (dd16.dvs K) (dd16.kws K) (He.ga K "law") fd) : FnOk P w K mg base (L2.CX P w) 5 (He.ga K "law") fd ["_law_script"] (spF K F_law 1) := by
  refine fn_ok (N := ["_law_script", "_law_hand_here", "_law_pieces", "_law_text", "_law_most", "_law_fault", "_law_told", "_law_found", "_law_tokens", "e", "_law_token", "_law_piece_here", "_law_alone", "_law_due", "_law_good", "_law_k"]) (k := 4) (c := c_law) Fd sc_law mkF_ok (fun cdv A outer s H E hr => ?_)
  have hu := hu_of hr
  have nd := (sc_law).nd
  exact ss_cons (wSetM 1 nd (wCall ((ok__law_hand Y).mono (by decide)) hr tk_top (wA (wSlot 0) (sa_nil)))) (ss_cons (wSetC 2 [("_law_k", 15)] nd rfl (sg_name) (sgw_name (by decide)) (wRng1 (n_range Y) (wCall ((ok__law_take Y).mono (by decide)) hr tk_top (wA (wSlot 1) (wA (wInt) (sa_nil))))) (fun _ _ _ _ _ => wGn 15 nd) (fun _ _ _ _ _ => noIfs) (fun _ _ _ _ _ => wCall ((ok__law_piece Y).mono (by decide)) hr tk_W0 (wA (wSlot 1) (sa_nil)))) (ss_cons (ss_if (vCmp hu (wCall ((ok__law_take Y).mono (by decide)) hr tk_top (wA (wSlot 1) (wA (wInt) (sa_nil)))) (wInt)) (ss_one (wSet 2 nd (se_bin (se_bin (wSlot 2) (wComp [("_law_k", 15)] nd rfl (sg_name) (sgw_name (by decide)) (wRng1 (n_range Y) (se_bin (wInt) (wCall ((ok__law_take Y).mono (by decide)) hr tk_top (wA (wSlot 1) (wA (wInt) (sa_nil)))))) (fun _ _ _ _ _ => wGn 15 nd) (fun _ _ _ _ _ => noIfs) (fun _ _ _ _ _ => wIx (wStr) (wCall ((ok__law_take Y).mono (by decide)) hr tk_W0 (wA (wSlot 1) (wA (wInt) (sa_nil))))))) (se_lst (wL (wCall ((ok__law_piece Y).mono (by decide)) hr tk_top (wA (wSlot 1) (sa_nil))) (sl_nil)))))) (ss_next_nil)) (ss_cons (wSet 3 nd (wJoin (wStr) (wComp [("_law_piece_here", 11)] nd rfl (sg_name) (sgw_name (by decide)) (si_val (wSlot 2)) (fun _ _ _ _ _ => wGn 11 nd) (fun _ _ _ _ _ => noIfs) (fun _ _ _ _ _ => se_bin (wSlot 11) (wIx (se_lst (wL (wStr) (wL (wStr) (wL (wStr) (wL (wStr) (sl_nil)))))) (wCall ((ok__law_take Y).mono (by decide)) hr tk_W0 (wA (wSlot 1) (wA (wInt) (sa_nil))))))))) (ss_cons (ss_if (vCmp hu (wCall ((ok__law_take Y).mono (by decide)) hr tk_top (wA (wSlot 1) (wA (wInt) (sa_nil)))) (wInt)) (ss_one (wSet 3 nd (se_bin (se_bin (wSlot 3) (wIx (wStr) (wCall ((ok__law_take Y).mono (by decide)) hr tk_top (wA (wSlot 1) (wA (wInt) (sa_nil)))))) (wStr)))) (ss_next_nil)) (ss_cons (wSet 4 nd (wIx (se_lst (wL (wInt) (wL (wCallB cb_len (n_len Y) (wA (wSlot 3) (sa_nil))) (wL (se_bin (wCallB cb_len (n_len Y) (wA (wSlot 3) (sa_nil))) (wInt)) (wL (wCallB (cb_max2 rfl) (n_max Y) (wA (wInt) (wA (se_bin (wCallB cb_len (n_len Y) (wA (wSlot 3) (sa_nil))) (wInt)) (sa_nil)))) (sl_nil)))))) (wCall ((ok__law_take Y).mono (by decide)) hr tk_top (wA (wSlot 1) (wA (wInt) (sa_nil)))))) (ss_cons (wAsg (sg_tup (is := [5, 6]) rfl) (pg_tup (n := 2) rfl (pgs_cons (wGn 5 nd) (pgs_cons (wGn 6 nd) (pgs_nil)))) (wCall ((ok__law_cut_told Y).mono (by decide)) hr tk_top (wA (wSlot 3) (wA (wSlot 4) (sa_nil))))) (ss_cons (wSet 7 nd (wNon)) (ss_cons (wSet 8 nd (se_tup (sl_nil))) (ss_cons (ss_tryAs (i := 9) rfl rfl nd rfl rfl ⟨rfl, by decide, Or.inl (g_BadText Y)⟩ tk_top rfl (mm_BadText Y) (fun w1 pn1 xe1 tk1 hp1 => ss_one (wSet 8 nd (wCall ((ok_cut_text Y).mono (by decide)) hr tk1 (wA (wSlot 3) (wA (wSlot 4) (sa_nil)))))) (fun a1 oe1 cls1 d1 pn1 hz hv xc e1 => suite_ok fun hx => ss_one (wSet 7 nd (se_tup (wL (wXf hx (by simp only [List.forall_mem_cons, List.not_mem_nil, false_imp_iff, implies_true, and_true]; exact xf_BadText Y) (by simp only [List.forall_mem_cons, List.not_mem_nil, false_imp_iff, implies_true, and_true]; exact na_BadText_spot Y) hz hv) (wL (wXf hx (by simp only [List.forall_mem_cons, List.not_mem_nil, false_imp_iff, implies_true, and_true]; exact xf_BadText Y) (by simp only [List.forall_mem_cons, List.not_mem_nil, false_imp_iff, implies_true, and_true]; exact na_BadText_what Y) hz hv) (sl_nil))))))) (ss_cons (ss_if (PW.pt (st_or (vCmp hu (wSlot 7) (wSlot 5)) (pw_or1 (PW.pt (st_and (vCmp hu (wSlot 5) (wNon)) (pw_and1 (PW.pt (st_or (st_not (vVal (wCallB cb_isi (n_isinstance Y) (wA (wSlot 8) (wA (wTy "tuple" (n_tuple Y)) (sa_nil)))))) (pw_or1 (vCmp hu (wCallTy cb_list (n_list Y) (wA (wSlot 8) (sa_nil))) (wSlot 6))))))))))) (ss_one (ss_ret (wBl))) (ss_next_nil)) (ss_cons (wFor hp_top rfl (si_val (wSlot 8)) (wGn 10 nd) (sg_name) (ss_one (ss_if (PW.pt (st_or (st_not (vVal (wCallB cb_isi (n_isinstance Y) (wA (wSlot 10) (wA (wTy "tuple" (n_tuple Y)) (sa_nil)))))) (st_or (PW.pt (st_and (vCmp hu (wIx (wSlot 10) (wInt)) (wStr)) (pw_and1 (st_not (vVal (wCall ((ok__law_whole Y).mono (by decide)) hr tk_top (wA (wIx (wSlot 10) (wInt)) (sa_nil)))))))) (pw_or1 (st_not (vVal (wCall ((ok__law_whole Y).mono (by decide)) hr tk_top (wA (wIx (wSlot 10) (wInt)) (sa_nil))))))))) (ss_one (ss_ret (wBl))) (ss_next_nil)))) (ss_cons (wFor hp_top rfl (si_val (wSlot 2)) (wGn 11 nd) (sg_name) (ss_cons (wSet 12 nd (wIx (wCall ((ok__law_cut_told Y).mono (by decide)) hr tk_top (wA (wSlot 11) (wA (wInt) (sa_nil)))) (wInt))) (ss_cons (wSet 13 nd (se_and (wCmp hu (wCallB cb_len (n_len Y) (wA (wSlot 12) (sa_nil))) (wInt)) (pe_one (wCmp hu (wIx (wIx (wSlot 12) (wInt)) (wInt)) (wStr))))) (ss_cons (wSet 14 nd (wCall ((ok_is_name Y).mono (by decide)) hr tk_top (wA (wSlot 11) (sa_nil)))) (ss_one (ss_if (PW.pt (st_or (vCmp hu (wSlot 14) (wSlot 13)) (pw_or1 (st_not (vVal (wCallB cb_isi (n_isinstance Y) (wA (wSlot 14) (wA (wTy "bool" (n_bool Y)) (sa_nil))))))))) (ss_one (ss_ret (wBl))) (ss_next_nil))))))) (ss_cons (ss_if (PW.pt (st_or (vVal (wCall ((ok_is_name Y).mono (by decide)) hr tk_top (wA (wStr) (sa_nil)))) (st_or (vVal (wCall ((ok_is_name Y).mono (by decide)) hr tk_top (wA (wStr) (sa_nil)))) (st_or (vVal (wCall ((ok_is_name Y).mono (by decide)) hr tk_top (wA (wInt) (sa_nil)))) (pw_or1 (st_not (vVal (wCall ((ok_is_name Y).mono (by decide)) hr tk_top (wA (wStr) (sa_nil)))))))))) (ss_one (ss_ret (wBl))) (ss_next_nil)) (ss_cons (ss_tryAs (i := 9) rfl rfl nd rfl rfl ⟨rfl, by decide, Or.inl (g_BadText Y)⟩ tk_top rfl (mm_BadText Y) (fun w1 pn1 xe1 tk1 hp1 => ss_one (wDrop (wCall ((ok_cut_text Y).mono (by decide)) hr tk1 (wA (wSlot 4) (wA (wSlot 4) (sa_nil)))))) (fun a1 oe1 cls1 d1 pn1 hz hv xc e1 => suite_ok fun hx => ss_one (ss_ret (wCmp hu (se_tup (wL (wXf hx (by simp only [List.forall_mem_cons, List.not_mem_nil, false_imp_iff, implies_true, and_true]; exact xf_BadText Y) (by simp only [List.forall_mem_cons, List.not_mem_nil, false_imp_iff, implies_true, and_true]; exact na_BadText_spot Y) hz hv) (wL (wXf hx (by simp only [List.forall_mem_cons, List.not_mem_nil, false_imp_iff, implies_true, and_true]; exact xf_BadText Y) (by simp only [List.forall_mem_cons, List.not_mem_nil, false_imp_iff, implies_true, and_true]; exact na_BadText_what Y) hz hv) (sl_nil)))) (se_tup (wL (se_un (wInt)) (wL (wStr) (sl_nil)))))))) (ss_one (ss_ret (wBl)))))))))))))))))
end
end UI.LW
namespace UI.LW
open PySem
/-! ### the hand -/
structure Hand where
  cells : List Int
  place : Nat
  great : Int
  mix : Int
def Hand.ok (h : Hand) : Prop := ∀ z ∈ h.cells, 0 ≤ z
def Hand.ds (h : Hand) : List D := [.lst (h.cells.map .int), .int (h.place : Int), .int h.great, .int h.mix]
def Hand.at (h : Hand) (S : Store) (r : Nat) : Prop := S[r]? = some (.lst h.ds) ∧ h.ok
theorem Hand.at.lt {h : Hand} {S : Store} {r : Nat} (a : h.at S r) : r < S.length := (List.getElem?_eq_some_iff.mp a.1).1
theorem Hand.at.set {h h' : Hand} {S : Store} {r : Nat} (a : h.at S r) (k : h'.ok) : h'.at (S.set r (.lst h'.ds)) r := ⟨List.getElem?_set_self a.lt, k⟩
theorem mixed_ok (a b : Int) (S : Store) : ∃ v, F__law_mixed [.val (.int a), .val (.int b)] S = .ok (.val (.int v)) S := by
  unfold F__law_mixed
  rw [x_mkF]
  have m1 : ∀ i : Int, binD .Mult (.int i) (.int 40014) = some (.val (.int (i * 40014))) := fun i => x_mul (.inr (.inl (by decide)))
  have m2 : ∀ i : Int, binD .Mult (.int i) (.int 7331) = some (.val (.int (i * 7331))) := fun i => x_mul (.inr (.inl (by decide)))
  have m3 : ∀ i : Int, binD .Mult (.int i) (.int 80021) = some (.val (.int (i * 80021))) := fun i => x_mul (.inr (.inl (by decide)))
  have m4 : ∀ i : Int, binD .Mult (.int i) (.int 61001) = some (.val (.int (i * 61001))) := fun i => x_mul (.inr (.inl (by decide)))
  have m5 : ∀ i j : Int, binD .Mult (.int (i % 2147483399)) (.int (j % 2147483399)) = some (.val (.int (i % 2147483399 * (j % 2147483399)))) := fun i j => x_mul (.inl (by omega))
  have d1 : ∀ i : Int, binD .FloorDiv (.int i) (.int 139) = some (.val (.int (i / 139))) := fun i => x_div (by decide) (by decide)
  have d2 : ∀ i : Int, binD .FloorDiv (.int i) (.int 13) = some (.val (.int (i / 13))) := fun i => x_div (by decide) (by decide)
  have d3 : ∀ i : Int, binD .FloorDiv (.int i) (.int 64) = some (.val (.int (i / 64))) := fun i => x_div (by decide) (by decide)
  have r1 : ∀ i : Int, binD .Mod (.int i) (.int 2147483399) = some (.val (.int (i % 2147483399))) := fun i => x_mod (by decide)
  have r2 : ∀ i : Int, binD .Mod (.int i) (.int 2147483629) = some (.val (.int (i % 2147483629))) := fun i => x_mod (by decide)
  have r3 : ∀ i : Int, binD .Mod (.int i) (.int 2147483587) = some (.val (.int (i % 2147483587))) := fun i => x_mod (by decide)
  simp [c__law_mixed, m1, m2, m3, m4, m5, d1, d2, d3, r1, r2, r3]
theorem take_ok {h : Hand} {S : Store} {r : Nat} (a : h.at S r) {m : Int} (hm : 1 ≤ m) (hm2 : m < 2 ^ 64) : ∃ (v : Int) (h' : Hand), 0 ≤ v ∧ v < m ∧ h'.ok ∧ F__law_take [.ptr r, .val (.int m)] S = .ok (.val (.int v)) (S.set r (.lst h'.ds)) := by
  obtain ⟨cells, place, great, mix⟩ := h
  have hr := a.lt
  obtain ⟨hS, ok⟩ := a
  simp only [Hand.ds] at hS
  have p18 : binD .Pow (.int 10) (.int 18) = some (.val (.int 1000000000000000000)) := by rw [binD_eq]; rfl
  have r0 : ∀ i : Int, binD .Mod (.int i) (.int m) = some (.val (.int (i % m))) := fun i => x_mod (by omega)
  have r1 : ∀ i : Int, binD .Mod (.int i) (.int 2147483399) = some (.val (.int (i % 2147483399))) := fun i => x_mod (by decide)
  have r2 : ∀ i : Int, binD .Mod (.int i) (.int 2147483549) = some (.val (.int (i % 2147483549))) := fun i => x_mod (by decide)
  have d0 : ∀ i : Int, binD .FloorDiv (.int i) (.int m) = some (.val (.int (i / m))) := fun i => x_div (by omega) (by omega)
  have v0 : ∀ i : Int, 0 ≤ i % m := fun i => Int.emod_nonneg _ (by omega)
  have v1 : ∀ i : Int, i % m < m := fun i => Int.emod_lt_of_pos _ (by omega)
  have self : ∀ c, (S.set r c)[r]? = some c := fun c => List.getElem?_set_self hr
  have self2 : ∀ c d, ((S.set r c).set r d)[r]? = some d := fun c d => List.getElem?_set_self (by simpa using hr)
  have i1 : L2.ixN 4 1 = some 1 := rfl
  have i2 : L2.ixN 4 2 = some 2 := rfl
  have i3 : L2.ixN 4 3 = some 3 := rfl
  have tk : ∀ c : Store, c.take c.length = c := fun c => List.take_length
  have tl : ∀ c, (S.set r c).take S.length = S.set r c := fun c => by rw [List.take_of_length_le]; simp
  unfold F__law_take
  rw [x_mkF]
  by_cases c1 : great = 0 ∧ (place : Int) < (cells.length : Int)
  · obtain ⟨c1, c2⟩ := c1
    have c2 : place < cells.length := by omega
    have e1 : atD (cells.map D.int) (place : Int) = some (.int cells[place]) := x_at (by simp [c2])
    by_cases c3 : cells[place] < 1000000000000000000
    · obtain ⟨v, hv⟩ := mixed_ok (cells[place] % 2147483399) (place + 1) (S.set r (.lst [.lst (cells.map .int), .int ((place : Int) + 1), .int great, .int mix]))
      subst c1
      refine ⟨v % m, ⟨cells, place + 1, 0, mix⟩, v0 _, v1 _, ok, ?_⟩
      simp [c__law_take, hS, c2, e1, i1, self, self2, p18, c3, r0, r1, hv, tl, Hand.ds]
    · have c4 : 0 < cells[place] := by omega
      have q0 : 0 ≤ cells[place] / m := Int.ediv_nonneg (by omega) (by omega)
      subst c1
      refine ⟨cells[place] % m, ⟨cells, place + 1, cells[place] / m, mix⟩, v0 _, v1 _, ok, ?_⟩
      simp [c__law_take, hS, c2, e1, i1, i2, self, self2, p18, c3, c4, r0, r1, d0, tl, Hand.ds, List.set_set]
  · have e0 : (decide (great = 0) && decide ((place : Int) < (cells.length : Int))) = false := by
      rw [← Bool.decide_and]
      exact decide_eq_false c1
    have e1 : ∀ k : Env → Store → SO, True := fun _ => trivial
    by_cases c2 : 0 < great
    · have c3 : ¬ great = 0 := by omega
      refine ⟨great % m, ⟨cells, place, great / m, mix⟩, v0 _, v1 _, ok, ?_⟩
      simp [c__law_take, hS, i2, self, self2, c2, c3, r0, d0, tl, Hand.ds]
    · obtain ⟨v, hv⟩ := mixed_ok ((mix + 1) % 2147483549) place (S.set r (.lst [.lst (cells.map .int), .int (place : Int), .int great, .int ((mix + 1) % 2147483549)]))
      refine ⟨v % m, ⟨cells, place, great, (mix + 1) % 2147483549⟩, v0 _, v1 _, ok, ?_⟩
      by_cases c3 : great = 0
      · have c4 : ¬ place < cells.length := fun z => c1 ⟨c3, by omega⟩
        subst c3
        simp [c__law_take, hS, i3, self, self2, c4, r0, r2, hv, tl, Hand.ds]
      · simp [c__law_take, hS, i3, self, self2, c2, c3, r0, r2, hv, tl, Hand.ds]
end UI.LW
namespace UI.LW
open PySem SX
/-! ### texts as lists of signs -/
theorem S_ok {a : List Nat} (h : ∀ c ∈ a, c < 128) : PyData.strOk (S a) = true := by
  unfold PyData.strOk
  simp only [S, List.all_toArray, List.all_eq_true, decide_eq_true_eq]
  exact fun c hc => Nat.lt_trans (h c hc) (by decide)
theorem S_eqD {a b : List Nat} (ha : ∀ c ∈ a, c < 128) (hb : ∀ c ∈ b, c < 128) : eqD (.str (S a)) (.str (S b)) = some (decide (a = b)) := by
  rw [x_eqS (S_ok ha) (S_ok hb)]
  congr 1
  exact decide_eq_decide.mpr ⟨S_inj, fun h => by rw [h]⟩
theorem in_S (a : List Nat) (c : Nat) : inD (.str (S [c])) (.str (S a)) = some (decide (c ∈ a)) := by
  show some (!(Builtin.Str.occurrences (S a) (S [c]) 0 (S a).length 1).isEmpty) = _
  rw [in_one]
theorem ix_S {a : List Nat} (hz : a.length ≤ sizeLine) {p : Nat} (hp : p < a.length) : ixD (.str (S a)) (.int (p : Int)) = some (.str (S [a[p]])) := by
  show (if (S a).length ≤ sizeLine then ((L2.ixN (S a).cps.toList.length (p : Int)).bind fun j => (S a).cps.toList[j]?).map fun c => D.str ⟨#[c]⟩ else none) = _
  rw [S_len, if_pos hz]
  have e : L2.ixN a.length (p : Int) = some p := by
    unfold L2.ixN
    rw [if_pos (by omega), if_pos (by omega)]
    simp
  show ((L2.ixN a.length (p : Int)).bind fun j => a[j]?).map _ = _
  rw [e, Option.bind_some, List.getElem?_eq_getElem hp]
  rfl
theorem len_S {a : List Nat} (hz : a.length ≤ sizeLine) : lenB [.str (S a)] = some (.val (.int (a.length : Int))) := by
  show (if (S a).length ≤ sizeLine then some (O.val (.int ((S a).length : Int))) else none) = _
  rw [S_len, if_pos hz]
theorem slice_in (a : List Nat) {i j : Nat} (hij : i ≤ j) (hj : j ≤ a.length) : Txt.slice (S a) (some (i : Int)) (some (j : Int)) = S ((a.drop i).take (j - i)) := by
  have hj' : j ≤ (S a).length := by rw [S_len]; exact hj
  have e := StrLaws.sliced_plain (S a) hij hj'
  unfold Txt.slice
  split
  · rename_i h
    rw [StrLaws.strSliceIndices_plain hij hj'] at h
    have h : j - i = a.length := by simpa [S_len] using h
    have i0 : i = 0 := by omega
    subst i0
    rw [List.drop_zero, List.take_of_length_le (by omega)]
  · rw [e]
theorem slice_S (a : List Nat) {i j : Nat} (hij : i ≤ j) (hi : i ≤ a.length) : Txt.slice (S a) (some (i : Int)) (some (j : Int)) = S ((a.drop i).take (j - i)) := by
  by_cases hj : j ≤ a.length
  · exact slice_in a hij hj
  · have e : Txt.slice (S a) (some (i : Int)) (some (j : Int)) = Txt.slice (S a) (some (i : Int)) (some ((a.length : Nat) : Int)) := by
      unfold Txt.slice
      rw [S_len, idx_hi (by omega)]
    rw [e, slice_in a hi (Nat.le_refl _), List.take_of_length_le (by rw [List.length_drop]; omega), List.take_of_length_le (by rw [List.length_drop]; omega)]
theorem sl_S {a : List Nat} (hz : a.length ≤ sizeLine) {i j : Nat} (hij : i ≤ j) (hi : i ≤ a.length) : slD (.str (S a)) (some (i : Int)) (some (j : Int)) = some (.val (.str (S ((a.drop i).take (j - i))))) := by
  show (if (S a).length ≤ sizeLine then some (O.val (.str (Txt.slice (S a) (some (i : Int)) (some (j : Int))))) else none) = _
  rw [S_len, if_pos hz, slice_S a hij hi]
/-! ### runs -/
@[simp] theorem x_sWhile {m : Nat} {t : Tv} {b : Sv} {ρ : Env} {S : Store} : sWhile m t b ρ S = whileI t b m ρ S := (rfl)
theorem x_while {n : Nat} {t : Tv} {b : Sv} {ρ : Env} {S : Store} : whileI t b (n + 1) ρ S = liftS ρ (t ρ S) fun k S1 => if k = true then loopK (b ρ S1) (whileI t b n) else .nx ρ S1 := (rfl)
def runEnd (sg : List Nat) (a : List Nat) (p : Nat) : Nat := p + ((a.drop p).takeWhile fun c => decide (c ∈ sg)).length
theorem run_end {sg a : List Nat} {p : Nat} (h : a.length ≤ p) : runEnd sg a p = p := by
  unfold runEnd
  rw [List.drop_eq_nil_of_le h]
  rfl
theorem run_in {sg a : List Nat} {p : Nat} (h : p < a.length) (hm : a[p] ∈ sg) : runEnd sg a p = runEnd sg a (p + 1) := by
  unfold runEnd
  rw [List.drop_eq_getElem_cons h, List.takeWhile_cons, if_pos (decide_eq_true hm), List.length_cons]
  omega
theorem run_out {sg a : List Nat} {p : Nat} (h : p < a.length) (hm : a[p] ∉ sg) : runEnd sg a p = p := by
  unfold runEnd
  rw [List.drop_eq_getElem_cons h, List.takeWhile_cons, if_neg (by simpa using hm)]
  rfl
theorem run_go {sg a : List Nat} (hz : a.length ≤ 1000000) (k : Nat) : ∀ (p n : Nat) (q : Option O) (St : Store), a.length - p ≤ k → k < n →
    whileI (tAnd (tCmp .Lt (eSlot 3) (eCallB lenB (aCons (eSlot 0) (aNil)))) (tCmp .In (eIx (eSlot 0) (eSlot 3)) (eSlot 2))) (sSet 3 (eBin .Add (eSlot 3) (eC (.int 1)))) n [some (.val (.str (S a))), q, some (.val (.str (S sg))), some (.val (.int (p : Int)))] St = .nx [some (.val (.str (S a))), q, some (.val (.str (S sg))), some (.val (.int (runEnd sg a p : Nat)))] St := by
  have hz' : a.length ≤ sizeLine := by rw [x_size]; omega
  induction k with
  | zero =>
    intro p n q St hk hn
    obtain ⟨n, rfl⟩ : ∃ m, n = m + 1 := ⟨n - 1, by omega⟩
    rw [x_while, run_end (by omega)]
    have c : ¬ (p < a.length) := by omega
    simp [len_S hz', c]
  | succ k ih =>
    intro p n q St hk hn
    obtain ⟨n, rfl⟩ : ∃ m, n = m + 1 := ⟨n - 1, by omega⟩
    rw [x_while]
    by_cases c : p < a.length
    · by_cases m : a[p] ∈ sg
      · rw [run_in c m]
        have h := ih (p + 1) n q St (by omega) (by omega)
        have e : ((p + 1 : Nat) : Int) = (p : Int) + 1 := by omega
        rw [e] at h
        simp [len_S hz', c, ix_S hz' c, in_S, m, h]
      · rw [run_out c m]
        simp [len_S hz', c, ix_S hz' c, in_S, m]
    · rw [run_end (by omega)]
      simp [len_S hz', c]
theorem fuel : ∃ n, wFuel = n ∧ 10000000 < n := ⟨_, rfl, by rw [wFuel_eq]; decide⟩
theorem end_of_run_ok {sg a : List Nat} (hz : a.length ≤ 1000000) (p : Nat) (St : Store) : F_end_of_run [.val (.str (S a)), .val (.int (p : Int)), .val (.str (S sg))] St = .ok (.val (.int (runEnd sg a p : Nat))) St := by
  obtain ⟨n, hn, hn2⟩ := fuel
  have h := run_go (sg := sg) hz a.length p n (some (.val (.int (p : Int)))) St (by omega) (by omega)
  unfold F_end_of_run
  rw [x_mkF]
  simp [c_end_of_run, hn, h]
theorem lend_go {sg a : List Nat} (hz : a.length ≤ 1000000) (k : Nat) : ∀ (p : Nat) (q r : Option O) (St : Store), p + k = a.length → ∃ r', forI (gNm 3) (sIf (tCmp .NotIn (eIx (eSlot 0) (eSlot 3)) (eSlot 2)) (sRet (eSlot 3)) (sNext)) (rngD (p : Int) k) [some (.val (.str (S a))), q, some (.val (.str (S sg))), r] St = if runEnd sg a p < a.length then .ret (.val (.int (runEnd sg a p : Nat))) St else .nx [some (.val (.str (S a))), q, some (.val (.str (S sg))), r'] St := by
  have hz' : a.length ≤ sizeLine := by rw [x_size]; omega
  induction k with
  | zero =>
    intro p q r St hk
    rw [run_end (by omega)]
    exact ⟨r, by rw [if_neg (by omega)]; rfl⟩
  | succ k ih =>
    intro p q r St hk
    have c : p < a.length := by omega
    rw [x_rng, x_for_cons]
    by_cases m : a[p] ∈ sg
    · rw [run_in c m]
      obtain ⟨r', h⟩ := ih (p + 1) q (some (.val (.int (p : Int)))) St (by omega)
      refine ⟨r', ?_⟩
      have e : ((p + 1 : Nat) : Int) = (p : Int) + 1 := by omega
      rw [← h, e]
      simp [ix_S hz' c, in_S, m]
    · rw [run_out c m]
      exact ⟨r, by rw [if_pos c]; simp [ix_S hz' c, in_S, m]⟩
theorem law_end_ok {sg a : List Nat} (hz : a.length ≤ 1000000) {p : Nat} (hp : p ≤ a.length) (St : Store) : F__law_end_of [.val (.str (S a)), .val (.int (p : Int)), .val (.str (S sg))] St = .ok (.val (.int (runEnd sg a p : Nat))) St := by
  have hz' : a.length ≤ sizeLine := by rw [x_size]; omega
  obtain ⟨r', h⟩ := lend_go (sg := sg) hz (a.length - p) p (some (.val (.int (p : Int)))) none St (by omega)
  have e : ((a.length : Int) - (p : Int)).toNat = a.length - p := by omega
  have w1 : -4611686018427387904 ≤ (p : Int) := by omega
  have w2 : (p : Int) < 4611686018427387904 := by omega
  have w3 : -4611686018427387904 ≤ (a.length : Int) := by omega
  have w4 : (a.length : Int) < 4611686018427387904 := by omega
  have le : runEnd sg a p ≤ a.length := by
    unfold runEnd
    have := (List.takeWhile_sublist (l := a.drop p) fun c => decide (c ∈ sg)).length_le
    rw [List.length_drop] at this
    omega
  unfold F__law_end_of
  rw [x_mkF]
  by_cases c : runEnd sg a p < a.length
  · rw [if_pos c] at h
    simp [c__law_end_of, len_S hz', w1, w2, w3, w4, e, h]
  · rw [if_neg c] at h
    have e2 : runEnd sg a p = a.length := by omega
    simp [c__law_end_of, len_S hz', w1, w2, w3, w4, e, h, e2]
end UI.LW
namespace UI.LW
open PySem SX
def lets : List Nat := (List.range 26).map (97 + ·)
def figs : List Nat := (List.range 10).map (48 + ·)
theorem LET : Str.ofString "abcdefghijklmnopqrstuvwxyz" = S lets := by decide +kernel
theorem FIG : Str.ofString "0123456789" = S figs := by decide +kernel
theorem LF : Str.ofString "abcdefghijklmnopqrstuvwxyz0123456789" = S (lets ++ figs) := by decide +kernel
theorem szM {a : List Nat} (hz : a.length ≤ 1000000) : a.length ≤ sizeLine := by rw [x_size]; omega
/-! ### keywords -/
def kwS : List Str := ["fun", "let", "repeat", "if", "else", "give", "pick", "table", "routine", "from", "loop", "until", "fi", "local", "end", "call", "back"]
def isKw (s : Str) : Bool := decide (s ∈ kwS)
theorem keyword_ok (s : Str) (St : Store) : F_is_keyword [.val (.str s)] St = .ok (.val (.bl (isKw s))) St := by
  unfold F_is_keyword
  rw [x_mkF]
  have e : ∀ y : Str, (y = s) = (s = y) := fun y => propext eq_comm
  have k : isKw s = ((decide (s = "fun") || (decide (s = "let") || (decide (s = "repeat") || (decide (s = "if") || (decide (s = "else") || (decide (s = "give") || (decide (s = "pick") || decide (s = "table")))))))) || (decide (s = "routine") || (decide (s = "from") || (decide (s = "loop") || (decide (s = "until") || (decide (s = "fi") || (decide (s = "local") || (decide (s = "end") || (decide (s = "call") || decide (s = "back"))))))))))  := by
    unfold isKw kwS
    simp only [List.mem_cons, List.not_mem_nil, or_false, Bool.decide_or, Bool.or_assoc]
  rw [k]
  have i1 : inD (.str s) (.tup [.str "fun", .str "let", .str "repeat", .str "if", .str "else", .str "give", .str "pick", .str "table"]) = some (decide (s = "fun") || (decide (s = "let") || (decide (s = "repeat") || (decide (s = "if") || (decide (s = "else") || (decide (s = "give") || (decide (s = "pick") || decide (s = "table")))))))) := by
    simp only [inD, flatD, List.all_cons, List.all_nil, Bool.and_self, if_true, List.any_cons, List.any_nil, flatEq, Bool.or_false, e]
  have i2 : inD (.str s) (.tup [.str "routine", .str "from", .str "loop", .str "until", .str "fi", .str "local", .str "end", .str "call", .str "back"]) = some (decide (s = "routine") || (decide (s = "from") || (decide (s = "loop") || (decide (s = "until") || (decide (s = "fi") || (decide (s = "local") || (decide (s = "end") || (decide (s = "call") || decide (s = "back"))))))))) := by
    simp only [inD, flatD, List.all_cons, List.all_nil, Bool.and_self, if_true, List.any_cons, List.any_nil, flatEq, Bool.or_false, e]
  generalize (decide (s = "fun") || (decide (s = "let") || (decide (s = "repeat") || (decide (s = "if") || (decide (s = "else") || (decide (s = "give") || (decide (s = "pick") || decide (s = "table")))))))) = A at *
  generalize (decide (s = "routine") || (decide (s = "from") || (decide (s = "loop") || (decide (s = "until") || (decide (s = "fi") || (decide (s = "local") || (decide (s = "end") || (decide (s = "call") || decide (s = "back"))))))))) = B at *
  unfold c_is_keyword
  cases A <;> simp [i1, i2]
/-! ### tokens -/
def badText (p : Nat) (what : Str) : Xc := ⟨"BadText", [("spot", .int (p : Int)), ("what", .str what)]⟩
def cut (a : List Nat) (p e : Nat) : List Nat := (a.drop p).take (e - p)
theorem runEnd_ge (sg a : List Nat) (p : Nat) : p ≤ runEnd sg a p := by unfold runEnd; omega
theorem runEnd_le {sg a : List Nat} {p : Nat} (hp : p ≤ a.length) : runEnd sg a p ≤ a.length := by
  unfold runEnd
  have := (List.takeWhile_sublist (l := a.drop p) fun c => decide (c ∈ sg)).length_le
  rw [List.length_drop] at this
  omega
theorem cut_len {a : List Nat} {p e : Nat} (he : e ≤ a.length) : (cut a p e).length = e - p := by
  unfold cut
  rw [List.length_take, List.length_drop]
  omega
def wordTok (w : List Nat) (p : Nat) : D := .tup [.str (if isKw (S w) = true then "word" else "name"), .str (S w), .int (p : Int)]
theorem word_ok {a : List Nat} (hz : a.length ≤ 1000000) {p : Nat} (hp : p ≤ a.length) (St : Store) : F_word_token [.val (.str (S a)), .val (.int (p : Int))] St =
    if 8 < runEnd (lets ++ figs) a p - p then .exc (badText p "name") St else .ok (.val (wordTok (cut a p (runEnd (lets ++ figs) a p)) p)) St := by
  have hr := end_of_run_ok (sg := lets ++ figs) hz p St
  have g := runEnd_ge (lets ++ figs) a p
  have le := runEnd_le (sg := lets ++ figs) hp
  have sl := sl_S (szM hz) g hp
  have cl := cut_len (a := a) (p := p) le
  have ad : binD .Add (.str "abcdefghijklmnopqrstuvwxyz") (.str "0123456789") = some (.val (.str (S (lets ++ figs)))) := by
    rw [x_addS, if_pos (by rw [x_size]; decide +kernel), LET, FIG, S_cat]
  have ln : lenB [.str (S (cut a p (runEnd (lets ++ figs) a p)))] = some (.val (.int ((runEnd (lets ++ figs) a p - p : Nat) : Int))) := by
    rw [len_S (by rw [cl, x_size]; omega), cl]
  have kw := keyword_ok (S (cut a p (runEnd (lets ++ figs) a p))) St
  have s3 : 3 ≤ sizeLine := by rw [x_size]; decide
  unfold cut at ln kw cl
  unfold F_word_token wordTok badText cut
  rw [x_mkF]
  generalize (a.drop p).take (runEnd (lets ++ figs) a p - p) = w at *
  generalize hE : runEnd (lets ++ figs) a p - p = E at *
  by_cases c : 8 < E
  · have c' : (8 : Int) < (E : Int) := by omega
    unfold c_word_token
    simp [ad, hr, sl, ln, c, c']
  · have c' : ¬ (8 : Int) < (E : Int) := by omega
    unfold c_word_token
    cases hk : isKw (S w) <;> rw [hk] at kw <;> simp [ad, hr, sl, ln, c, c', kw, s3]
end UI.LW
namespace UI.LW
open PySem SX
/-- what a row of figures is worth -/
def worth (r : List Nat) : Int := (PySem.intText? (S r)).getD 0
theorem worth_ok {r : List Nat} (h : ∀ c ∈ r, 48 ≤ c ∧ c ≤ 57) (hne : r ≠ []) (hl : r.length ≤ 640) : intB [.str (S r)] = some (.val (.int (worth r))) := by
  have e := int_S (a := r) (by rw [List.all_eq_true]; intro c hc; simp [h c hc]) hne (by omega)
  show ((PySem.intText? (S r)).bind fun n => if (S r).length ≤ 640 then some (O.val (.int n)) else none) = _
  unfold worth
  rw [e, Option.bind_some, S_len, if_pos hl]
  rfl
def numBad (r : List Nat) : Bool := decide (4 < r.length) || ((decide (1 < r.length) && decide (r.head? = some 48)) || decide (4095 < worth r))
def numTok (r : List Nat) (p : Nat) : D := .tup [.str "number", .int (worth r), .int (p : Int)]
theorem zero_S : Str.ofString "0" = S [48] := by decide +kernel
theorem number_ok {a : List Nat} (hz : a.length ≤ 1000000) (ha : ∀ c ∈ a, c < 128) {p e : Nat} (hp : p < e) (he : e ≤ a.length) (hf : ∀ c ∈ cut a p e, 48 ≤ c ∧ c ≤ 57) (St : Store) : F_number_token [.val (.str (S a)), .val (.int (p : Int)), .val (.int (e : Int))] St =
    if numBad (cut a p e) = true then .exc (badText p "number") St else .ok (.val (numTok (cut a p e) p)) St := by
  have sl := sl_S (szM hz) (i := p) (j := e) (by omega) (by omega)
  have cl := cut_len (a := a) (p := p) he
  have hc : ∀ c ∈ cut a p e, c < 128 := fun c h => ha c (List.mem_of_mem_drop (List.mem_of_mem_take h))
  have s3 : 3 ≤ sizeLine := by rw [x_size]; decide
  unfold F_number_token badText numTok
  rw [x_mkF]
  unfold cut at *
  generalize hw : (a.drop p).take (e - p) = r at *
  have rl : r.length ≤ sizeLine := by rw [cl, x_size]; omega
  have ln := len_S (a := r) rl
  have rp : 0 < r.length := by omega
  have i0 := ix_S (a := r) rl (p := 0) rp
  have hh : r.head? = some r[0] := by rw [List.head?_eq_getElem?, List.getElem?_eq_getElem rp]
  have q0 : eqD (.str (S [r[0]])) (.str (S [48])) = some (decide (r[0] = 48)) := by
    rw [S_eqD (fun c h => by rw [List.mem_singleton.mp h]; exact hc _ (List.getElem_mem _)) (fun c h => by rw [List.mem_singleton.mp h]; decide)]
    simp
  have i0' : ixD (.str (S r)) (.int 0) = some (.str (S [r[0]])) := i0
  unfold numBad
  rw [hh]
  by_cases c1 : 4 < r.length
  · have c1' : (4 : Int) < (r.length : Int) := by omega
    unfold c_number_token
    simp [sl, ln, c1, c1']
  · have c1' : ¬ (4 : Int) < (r.length : Int) := by omega
    have wo := worth_ok hf (List.ne_nil_of_length_pos rp) (by omega)
    unfold c_number_token
    rw [zero_S]
    have q48 : eqD (.str (S [48])) (.str (S [48])) = some true := by rw [S_eqD (by decide) (by decide)]; rfl
    by_cases c2 : 1 < r.length
    · have c2' : (1 : Int) < (r.length : Int) := by omega
      by_cases c3 : r[0] = 48
      · simp [sl, ln, c1, c2, c1', c2', i0', q48, c3]
      · by_cases c4 : 4095 < worth r
        · simp [sl, ln, c1, c2, c1', c2', i0', q0, c3, wo, c4]
        · simp [sl, ln, c1, c2, c1', c2', i0', q0, c3, wo, c4, s3]
    · have c2' : ¬ (1 : Int) < (r.length : Int) := by omega
      by_cases c4 : 4095 < worth r
      · simp [sl, ln, c1, c2, c1', c2', wo, c4]
      · simp [sl, ln, c1, c2, c1', c2', wo, c4, s3]
/-! ### signs -/
def dbl : List (List Nat) := [[61, 61], [60, 60], [62, 62], [43, 61], [45, 61], [94, 61]]
def sgl : List Nat := [123, 125, 40, 41, 91, 93, 44, 59, 61, 43, 45, 42, 38, 124, 94, 60]
theorem SGL : Str.ofString "{}()[],;=+-*&|^<" = S [123, 125, 40, 41, 91, 93, 44, 59, 61, 43, 45, 42, 38, 124, 94, 60] := by decide +kernel
theorem T3 : Str.ofString "<=>" = S [60, 61, 62] := by decide +kernel
theorem D1 : Str.ofString "==" = S [61, 61] := by decide +kernel
theorem D2 : Str.ofString "<<" = S [60, 60] := by decide +kernel
theorem D3 : Str.ofString ">>" = S [62, 62] := by decide +kernel
theorem D4 : Str.ofString "+=" = S [43, 61] := by decide +kernel
theorem D5 : Str.ofString "-=" = S [45, 61] := by decide +kernel
theorem D6 : Str.ofString "^=" = S [94, 61] := by decide +kernel
def signAt (a : List Nat) (p : Nat) : Option (List Nat) := if (a.drop p).take 3 = [60, 61, 62] then some [60, 61, 62] else if (a.drop p).take 2 ∈ dbl then some ((a.drop p).take 2) else if (a.drop p).take 1 ∈ sgl.map fun c => [c] then some ((a.drop p).take 1) else none
def signTok (s : List Nat) (p : Nat) : D := .tup [.str "sign", .str (S s), .int (p : Int)]
theorem in_dbl (s : List Nat) : inD (.str (S s)) (.tup [.str (S [61, 61]), .str (S [60, 60]), .str (S [62, 62]), .str (S [43, 61]), .str (S [45, 61]), .str (S [94, 61])]) = some (decide (s ∈ dbl)) := by
  have e : ∀ y : List Nat, (S y = S s) = (s = y) := fun y => propext ⟨fun h => (S_inj h).symm, fun h => by rw [h]⟩
  simp only [inD, flatD, List.all_cons, List.all_nil, Bool.and_self, if_true, List.any_cons, List.any_nil, flatEq, Bool.or_false, dbl, List.mem_cons, List.not_mem_nil, or_false, Bool.decide_or, e]
theorem sign_ok {a : List Nat} (hz : a.length ≤ 1000000) (ha : ∀ c ∈ a, c < 128) {p : Nat} (hp : p < a.length) (St : Store) : F_sign_token [.val (.str (S a)), .val (.int (p : Int))] St = match signAt a p with
    | some s => .ok (.val (signTok s p)) St
    | none => .exc (badText p "sign") St := by
  have s3 := sl_S (szM hz) (i := p) (j := p + 3) (by omega) (by omega)
  have s2 := sl_S (szM hz) (i := p) (j := p + 2) (by omega) (by omega)
  rw [show p + 3 - p = 3 by omega] at s3
  rw [show p + 2 - p = 2 by omega] at s2
  have e3 : ((p + 3 : Nat) : Int) = (p : Int) + 3 := by omega
  have e2 : ((p + 2 : Nat) : Int) = (p : Int) + 2 := by omega
  rw [e3] at s3
  rw [e2] at s2
  have i1 := ix_S (szM hz) hp
  have t1 : (a.drop p).take 1 = [a[p]] := by rw [List.drop_eq_getElem_cons hp]; rfl
  have h3 : ∀ c ∈ (a.drop p).take 3, c < 128 := fun c h => ha c (List.mem_of_mem_drop (List.mem_of_mem_take h))
  have q3 := S_eqD h3 (b := [60, 61, 62]) (by decide)
  have q2 := in_dbl ((a.drop p).take 2)
  have q1 := in_S [123, 125, 40, 41, 91, 93, 44, 59, 61, 43, 45, 42, 38, 124, 94, 60] a[p]
  have z3 : 3 ≤ sizeLine := by rw [x_size]; decide
  unfold signAt
  rw [t1]
  have m1 : ([a[p]] ∈ sgl.map fun c => [c]) = (a[p] ∈ [123, 125, 40, 41, 91, 93, 44, 59, 61, 43, 45, 42, 38, 124, 94, 60]) := by
    rw [show ([123, 125, 40, 41, 91, 93, 44, 59, 61, 43, 45, 42, 38, 124, 94, 60] : List Nat) = sgl from rfl]
    simp
  simp only [m1]
  generalize (a.drop p).take 3 = T at *
  generalize (a.drop p).take 2 = D at *
  unfold F_sign_token badText signTok
  rw [x_mkF]
  unfold c_sign_token
  rw [T3, D1, D2, D3, D4, D5, D6, SGL]
  generalize hG : ([123, 125, 40, 41, 91, 93, 44, 59, 61, 43, 45, 42, 38, 124, 94, 60] : List Nat) = G at *
  by_cases c3 : T = [60, 61, 62]
  · have q : eqD (.str (S T)) (.str (S [60, 61, 62])) = some true := by rw [q3, decide_eq_true c3]
    simp only [c3, if_true]
    rw [c3] at q s3
    simp [s3, q, z3]
  · rw [decide_eq_false c3] at q3
    by_cases c2 : D ∈ dbl
    · rw [decide_eq_true c2] at q2
      simp [s3, q3, s2, q2, z3, c3, c2]
    · rw [decide_eq_false c2] at q2
      by_cases c1 : a[p] ∈ G
      · rw [decide_eq_true c1] at q1
        simp [s3, q3, s2, q2, i1, q1, z3, c3, c2, c1]
      · rw [decide_eq_false c1] at q1
        simp [s3, q3, s2, q2, i1, q1, z3, c3, c2, c1]
end UI.LW
namespace UI.LW
open PySem SX
noncomputable def saBody : Sv := sIf (tCmp .Eq (eSl (eSlot 0) (pSome (eSlot 1)) (pSome (eBin .Add (eSlot 1) (eCallB lenB (aCons (eSlot 2) (aNil)))))) (eSlot 2)) (sRet (eSlot 2)) (sNext)
theorem sa_go {a : List Nat} (hz : a.length ≤ 1000000) (ha : ∀ c ∈ a, c < 128) {p : Nat} (hp : p < a.length) (ss : List (List Nat)) : ∀ (x : Option O) (St : Store), (∀ s ∈ ss, (∀ c ∈ s, c < 128) ∧ s.length ≤ 3) → ∃ x', forI (gNm 2) saBody (ss.map fun s => .str (S s)) [some (.val (.str (S a))), some (.val (.int (p : Int))), x] St = match ss.find? (fun s => decide ((a.drop p).take s.length = s)) with
    | some s => .ret (.val (.str (S s))) St
    | none => .nx [some (.val (.str (S a))), some (.val (.int (p : Int))), x'] St := by
  induction ss with
  | nil => exact fun x St _ => ⟨x, rfl⟩
  | cons s ss ih =>
    intro x St h
    obtain ⟨x', e⟩ := ih (some (.val (.str (S s)))) St fun t ht => h t (List.mem_cons_of_mem _ ht)
    obtain ⟨h1, h2⟩ := h s (List.mem_cons_self ..)
    have sl := sl_S (szM hz) (i := p) (j := p + s.length) (by omega) (by omega)
    rw [show p + s.length - p = s.length by omega, show ((p + s.length : Nat) : Int) = (p : Int) + (s.length : Int) by omega] at sl
    have ln := len_S (a := s) (by rw [x_size]; omega)
    have q := S_eqD (a := (a.drop p).take s.length) (b := s) (fun c h => ha c (List.mem_of_mem_drop (List.mem_of_mem_take h))) h1
    refine ⟨x', ?_⟩
    have eb : saBody [some (.val (.str (S a))), some (.val (.int (p : Int))), some (.val (.str (S s)))] St = if (a.drop p).take s.length = s then .ret (.val (.str (S s))) St else .nx [some (.val (.str (S a))), some (.val (.int (p : Int))), some (.val (.str (S s)))] St := by
      unfold saBody
      by_cases c : (a.drop p).take s.length = s
      · rw [decide_eq_true c] at q
        rw [if_pos c]
        generalize (a.drop p).take s.length = T at *
        simp [sl, ln, q]
      · rw [decide_eq_false c] at q
        rw [if_neg c]
        simp [sl, ln, q]
    rw [List.map_cons, x_for_cons]
    simp only [x_gNm, List.length_cons, List.length_nil, Nat.reduceAdd, Nat.reduceLT, if_true, List.set_cons_succ, List.set_cons_zero, x_opt_some, eb]
    by_cases c : (a.drop p).take s.length = s
    · rw [if_pos c, List.find?_cons_of_pos (by exact decide_eq_true c)]
      rfl
    · rw [if_neg c, List.find?_cons_of_neg (by simpa using c), x_loop_nx]
      exact e
def allSigns : List (List Nat) := [60, 61, 62] :: (dbl ++ sgl.map fun c => [c])
theorem find_eq {α : Type} [DecidableEq α] (x : α) : ∀ l : List α, l.find? (fun s => decide (x = s)) = if x ∈ l then some x else none
  | [] => by simp
  | y :: l => by
    by_cases c : x = y
    · subst c
      simp
    · rw [List.find?_cons_of_neg (by simpa using c), find_eq x l]
      simp [c]
theorem find_len {a : List Nat} {n : Nat} : ∀ {l : List (List Nat)}, (∀ s ∈ l, s.length = n) → l.find? (fun s => decide (a.take s.length = s)) = l.find? (fun s => decide (a.take n = s))
  | [], _ => rfl
  | s :: l, h => by
    have hs := h s (List.mem_cons_self ..)
    rw [List.find?_cons, List.find?_cons, hs, find_len fun t ht => h t (List.mem_cons_of_mem _ ht)]
theorem signAt_find (a : List Nat) (p : Nat) : allSigns.find? (fun s => decide ((a.drop p).take s.length = s)) = signAt a p := by
  unfold allSigns signAt
  by_cases c : (a.drop p).take 3 = [60, 61, 62]
  · rw [List.find?_cons_of_pos (by exact decide_eq_true c), if_pos c]
  · rw [List.find?_cons_of_neg (by simpa using c), if_neg c, List.find?_append, find_len (n := 2) (by decide), find_len (n := 1) (by decide), find_eq, find_eq]
    by_cases c2 : (a.drop p).take 2 ∈ dbl
    · rw [if_pos c2, if_pos c2]; rfl
    · rw [if_neg c2, if_neg c2, Option.none_or]
      by_cases c1 : (a.drop p).take 1 ∈ sgl.map fun c => [c]
      · rw [if_pos c1, if_pos c1]
      · rw [if_neg c1, if_neg c1]
theorem E0 : Str.ofString "" = S [] := by decide +kernel
theorem sign_at_ok {a : List Nat} (hz : a.length ≤ 1000000) (ha : ∀ c ∈ a, c < 128) {p : Nat} (hp : p < a.length) (St : Store) : F__law_sign_at [.val (.str (S a)), .val (.int (p : Int))] St = .ok (.val (.str (S ((signAt a p).getD [])))) St := by
  obtain ⟨x', e⟩ := sa_go hz ha hp allSigns none St (by decide)
  rw [signAt_find] at e
  have l23 : 23 ≤ sizeLine := by rw [x_size]; decide
  have al : (allSigns.map fun s => D.str (S s)) = [.str "<=>", .str "==", .str "<<", .str ">>", .str "+=", .str "-=", .str "^=", .str "{", .str "}", .str "(", .str ")", .str "[", .str "]", .str ",", .str ";", .str "=", .str "+", .str "-", .str "*", .str "&", .str "|", .str "^", .str "<"] := by
    have h : (allSigns.map S) = (["<=>", "==", "<<", ">>", "+=", "-=", "^=", "{", "}", "(", ")", "[", "]", ",", ";", "=", "+", "-", "*", "&", "|", "^", "<"] : List Str) := by decide +kernel
    rw [show (fun s => D.str (S s)) = D.str ∘ S from rfl, ← List.map_map, h]
    rfl
  rw [al] at e
  unfold saBody at e
  unfold F__law_sign_at
  rw [x_mkF]
  unfold c__law_sign_at
  cases h : signAt a p with
  | none =>
    rw [h] at e
    simp only [Option.getD_none]
    simp [l23, e, E0]
  | some s =>
    rw [h] at e
    simp only [Option.getD_some]
    simp [l23, e]
/-! ### brackets -/
def many' (s : List Nat) (m : Nat) : Nat := if s ∈ [[40], [91], [123]] then m + 1 else if s ∈ [[41], [93], [125]] then m - 1 else m
theorem b1 : Str.ofString "(" = S [40] := by decide +kernel
theorem b2 : Str.ofString "[" = S [91] := by decide +kernel
theorem b3 : Str.ofString "{" = S [123] := by decide +kernel
theorem b4 : Str.ofString ")" = S [41] := by decide +kernel
theorem b5 : Str.ofString "]" = S [93] := by decide +kernel
theorem b6 : Str.ofString "}" = S [125] := by decide +kernel
theorem in3 (s x y z : List Nat) : inD (.str (S s)) (.tup [.str (S x), .str (S y), .str (S z)]) = some (decide (s ∈ [x, y, z])) := by
  have e : ∀ y : List Nat, (S y = S s) = (s = y) := fun y => propext ⟨fun h => (S_inj h).symm, fun h => by rw [h]⟩
  simp only [inD, flatD, List.all_cons, List.all_nil, Bool.and_self, if_true, List.any_cons, List.any_nil, flatEq, Bool.or_false, List.mem_cons, List.not_mem_nil, or_false, Bool.decide_or, e]
theorem open_ok (s : List Nat) (m : Nat) (St : Store) : F_open_behind [.val (.str (S s)), .val (.int (m : Int))] St = .ok (.val (.int (many' s m : Nat))) St := by
  have i1 := in3 s [40] [91] [123]
  have i2 := in3 s [41] [93] [125]
  have l3 : 3 ≤ sizeLine := by rw [x_size]; decide
  unfold F_open_behind
  rw [x_mkF]
  unfold c_open_behind many'
  rw [b1, b2, b3, b4, b5, b6]
  by_cases c1 : s ∈ [[40], [91], [123]]
  · rw [decide_eq_true c1] at i1
    rw [if_pos c1]
    simp [i1, l3]
  · rw [decide_eq_false c1] at i1
    rw [if_neg c1]
    by_cases c2 : s ∈ [[41], [93], [125]]
    · rw [decide_eq_true c2] at i2
      rw [if_pos c2]
      cases m with
      | zero => simp [i1, i2, l3]
      | succ m =>
        have e : ((m + 1 : Nat) : Int) - 1 = (m : Int) := by omega
        have p : (0 : Int) < ((m + 1 : Nat) : Int) := by omega
        generalize ((m + 1 : Nat) : Int) = M at *
        simp [i1, i2, l3, e, p]
    · rw [decide_eq_false c2] at i2
      rw [if_neg c2]
      simp [i1, i2, l3]
end UI.LW
namespace UI.LW
open PySem SX
theorem BL : Str.ofString " \n" = S [32, 10] := by decide +kernel
inductive LStep where
  | bad (what : Str)
  | go (t : D) (q m : Nat)
def stepOf (a : List Nat) (p : Nat) (c m : Nat) : LStep := if c ∈ lets then (if 8 < runEnd (lets ++ figs) a p - p then .bad "name" else .go (wordTok (cut a p (runEnd (lets ++ figs) a p)) p) (runEnd (lets ++ figs) a p) m)
  else if c ∈ figs then (if numBad (cut a p (runEnd figs a p)) = true then .bad "number" else .go (numTok (cut a p (runEnd figs a p)) p) (runEnd figs a p) m)
  else match signAt a p with
    | none => .bad "sign"
    | some s => if 20 < many' s m then .bad "deep" else .go (signTok s p) (p + s.length) (many' s m)
theorem cut_figs {a : List Nat} {p : Nat} : ∀ c ∈ cut a p (runEnd figs a p), 48 ≤ c ∧ c ≤ 57 := by
  intro c hc
  unfold cut runEnd at hc
  rw [show p + ((a.drop p).takeWhile fun c => decide (c ∈ figs)).length - p = ((a.drop p).takeWhile fun c => decide (c ∈ figs)).length by omega] at hc
  have h : (a.drop p).take ((a.drop p).takeWhile fun c => decide (c ∈ figs)).length = (a.drop p).takeWhile fun c => decide (c ∈ figs) := by
    exact (List.prefix_iff_eq_take.mp (List.takeWhile_prefix _)).symm
  rw [h] at hc
  have k := List.all_eq_true.mp (List.all_takeWhile (p := fun c => decide (c ∈ figs)) (l := a.drop p)) c hc
  have k := of_decide_eq_true k
  have : ∀ c ∈ figs, 48 ≤ c ∧ c ≤ 57 := by decide
  exact this c k
theorem cutBody {a : List Nat} (hz : a.length ≤ 1000000) (ha : ∀ c ∈ a, c < 128) {p : Nat} (hp : p < a.length) {m : Nat} (x1 t5 t6 : Option O) (S0 : Store) (ts : List D) (hts : ts.length < 2000000) :
    (a[p] ∈ [32, 10] → b_cut_text_1 [some (.val (.str (S a))), x1, some (.ptr S0.length), some (.val (.int (p : Int))), some (.val (.int (m : Int))), t5, t6] (S0 ++ [.lst ts]) = .ct [some (.val (.str (S a))), x1, some (.ptr S0.length), some (.val (.int ((p + 1 : Nat) : Int))), some (.val (.int (m : Int))), t5, t6] (S0 ++ [.lst ts])) ∧
    (a[p] ∉ [32, 10] → match stepOf a p a[p] m with
      | .bad w => ∃ ρ, b_cut_text_1 [some (.val (.str (S a))), x1, some (.ptr S0.length), some (.val (.int (p : Int))), some (.val (.int (m : Int))), t5, t6] (S0 ++ [.lst ts]) = .exc (badText p w) ρ (S0 ++ [.lst ts])
      | .go t q m' => ∃ t6', b_cut_text_1 [some (.val (.str (S a))), x1, some (.ptr S0.length), some (.val (.int (p : Int))), some (.val (.int (m : Int))), t5, t6] (S0 ++ [.lst ts]) = .nx [some (.val (.str (S a))), x1, some (.ptr S0.length), some (.val (.int (q : Int))), some (.val (.int (m' : Int))), some (.val t), t6'] (S0 ++ [.lst (ts ++ [t])])) := by
  have i1 := ix_S (szM hz) hp
  have k1 := in_S [32, 10] a[p]
  have k2 := in_S lets a[p]
  have k3 := in_S figs a[p]
  have wk := word_ok hz (p := p) (by omega) (S0 ++ [.lst ts])
  have er := end_of_run_ok (sg := figs) hz p (S0 ++ [.lst ts])
  have sg := sign_ok hz ha hp (S0 ++ [.lst ts])
  have l1 : ts.length < sizeLine := by rw [x_size]; omega
  have g1 := runEnd_ge (lets ++ figs) a p
  have le1 := runEnd_le (sg := lets ++ figs) (a := a) (p := p) (by omega)
  have le2 := runEnd_le (sg := figs) (a := a) (p := p) (by omega)
  constructor
  · intro hb
    rw [decide_eq_true hb] at k1
    unfold b_cut_text_1
    rw [BL]
    simp [i1, k1]
  · intro hb
    rw [decide_eq_false hb] at k1
    unfold stepOf b_cut_text_1
    rw [BL, LET, FIG]
    by_cases c2 : a[p] ∈ lets
    · rw [decide_eq_true c2] at k2
      rw [if_pos c2]
      by_cases c : 8 < runEnd (lets ++ figs) a p - p
      · rw [if_pos c] at wk ⊢
        simp [i1, k1, k2, wk]
      · rw [if_neg c] at wk ⊢
        refine ⟨t6, ?_⟩
        have cl := cut_len (a := a) (p := p) le1
        have ln := len_S (a := cut a p (runEnd (lets ++ figs) a p)) (by rw [cl, x_size]; omega)
        rw [cl] at ln
        have e : (p : Int) + ((runEnd (lets ++ figs) a p - p : Nat) : Int) = ((runEnd (lets ++ figs) a p : Nat) : Int) := by omega
        generalize hE : ((runEnd (lets ++ figs) a p - p : Nat) : Int) = E at *
        simp [i1, k1, k2, wk, wordTok, ln, e, l1]
    · rw [decide_eq_false c2] at k2
      rw [if_neg c2]
      by_cases c3 : a[p] ∈ figs
      · rw [decide_eq_true c3] at k3
        rw [if_pos c3]
        have pe : p < runEnd figs a p := by rw [run_in hp c3]; have := runEnd_ge figs a (p + 1); omega
        have nb := number_ok hz ha pe le2 cut_figs (S0 ++ [.lst ts])
        by_cases c : numBad (cut a p (runEnd figs a p)) = true
        · rw [if_pos c] at nb ⊢
          simp [i1, k1, k2, k3, er, nb]
        · rw [if_neg c] at nb ⊢
          exact ⟨some (.val (.int ((runEnd figs a p : Nat) : Int))), by simp [i1, k1, k2, k3, er, nb, l1]⟩
      · rw [decide_eq_false c3] at k3
        rw [if_neg c3]
        cases h : signAt a p with
        | none =>
          rw [h] at sg
          simp [i1, k1, k2, k3, sg]
        | some s =>
          rw [h] at sg
          have op := open_ok s m (S0 ++ [.lst ts])
          have sl : s.length ≤ 3 := by
            unfold signAt at h
            split at h
            · cases h; decide
            · split at h
              · cases h; rw [List.length_take]; omega
              · split at h
                · cases h; rw [List.length_take]; omega
                · cases h
          have ln := len_S (a := s) (by rw [x_size]; omega)
          have e : (p : Int) + (s.length : Int) = ((p + s.length : Nat) : Int) := by omega
          dsimp only
          by_cases c : 20 < many' s m
          · rw [if_pos c]
            have c' : (20 : Int) < ((many' s m : Nat) : Int) := by omega
            generalize many' s m = M at *
            simp [i1, k1, k2, k3, sg, signTok, op, c, c', badText]
          · rw [if_neg c]
            have c' : ¬ (20 : Int) < ((many' s m : Nat) : Int) := by omega
            generalize many' s m = M at *
            generalize hP : ((p + s.length : Nat) : Int) = P at *
            exact ⟨t6, by simp [i1, k1, k2, k3, sg, signTok, op, c, c', ln, e, l1]⟩
end UI.LW
namespace UI.LW
open PySem SX
theorem toPyL_strs (ys : List Str) : toPyL (ys.map .str) = some (ys.map .str) := by
  induction ys with
  | nil => rfl
  | cons y ys ih => simp [toPyL, toPy, ih]
theorem canLay_strs {ys : List Str} (h : ∀ y ∈ ys, PyData.strOk y = true) : PyData.canLayAll0 (ys.map .str) = true := by
  induction ys with
  | nil => simp [PyData.canLayAll0]
  | cons y ys ih => simp [PyData.canLayAll0, PyData.canLay0, h y (by simp), ih fun z hz => h z (List.mem_cons_of_mem _ hz)]
theorem depth_strs (ys : List Str) : PyData.depthAll (ys.map .str) = 0 := by
  induction ys with
  | nil => simp [PyData.depthAll]
  | cons y ys ih => simp [PyData.depthAll, PyData.depth, ih]
theorem any_strs {s : Str} {ys : List Str} (hs : PyData.strOk s = true) (h : ∀ y ∈ ys, PyData.strOk y = true) : inD (.str s) (.lst (ys.map .str)) = some (decide (s ∈ ys)) := by
  have sh : SeqAt.shaped (.list (ys.map .str)) = true := by simp [SeqAt.shaped, PyData.canLay0, canLay_strs h, PyData.depth, depth_strs]
  show anyEq (.str s) (ys.map .str) = _
  unfold anyEq
  simp only [toPy, toPyL_strs, x_shS, hs, sh, Bool.and_self, if_true, Option.some.injEq, List.any_map]
  rw [Bool.eq_iff_iff, List.any_eq_true, decide_eq_true_eq]
  constructor
  · rintro ⟨y, hy, e⟩
    have e : (y == s) = true := by simpa [PyData.eqv] using e
    rw [← eq_of_beq e]
    exact hy
  · intro hy
    exact ⟨s, hy, by simp [PyData.eqv]⟩
theorem kw_ok : ∀ y ∈ kwS, PyData.strOk y = true := by decide +kernel
theorem split_kw : splitD "fun let repeat if else give pick table routine from loop until fi local end call back" (.str " ") = some (.fr (kwS.map .str)) := by
  have h : Txt.split "fun let repeat if else give pick table routine from loop until fi local end call back" " " = kwS := by decide +kernel
  unfold splitD
  dsimp only
  rw [if_pos ⟨by decide +kernel, by rw [x_size]; decide +kernel⟩, h]
theorem in_open : ∀ s ∈ allSigns, inD (.str (S s)) (.str "([{") = some (decide (s ∈ [[40], [91], [123]])) := by decide +kernel
theorem in_close : ∀ s ∈ allSigns, inD (.str (S s)) (.str ")]}") = some (decide (s ∈ [[41], [93], [125]])) := by decide +kernel
theorem sign_mem {a : List Nat} {p : Nat} {s : List Nat} (h : signAt a p = some s) : s ∈ allSigns := by
  rw [← signAt_find] at h
  exact List.mem_of_find?_eq_some h
theorem all_small : ∀ s ∈ allSigns, (∀ c ∈ s, c < 128) ∧ s.length ≤ 3 ∧ s ≠ [] := by decide
def told (p : Nat) (w : Str) : D := .tup [.tup [.int (p : Int), .str w], .lst []]
theorem toldBody {a : List Nat} (hz : a.length ≤ 1000000) (ha : ∀ c ∈ a, c < 128) {p : Nat} (hp : p < a.length) {m b : Nat} (hm : m ≤ 20) (x1 t7 t8 t9 : Option O) (S0 : Store) (ts : List D) (hts : ts.length < 2000000) :
    ((p < b ∨ a[p] ∈ [32, 10]) → b__law_cut_told_1 [some (.val (.str (S a))), x1, some (.val (.lst (kwS.map .str))), some (.ptr S0.length), some (.val (.int (b : Int))), some (.val (.int (m : Int))), some (.val (.int (p : Int))), t7, t8, t9] (S0 ++ [.lst ts]) = .ct [some (.val (.str (S a))), x1, some (.val (.lst (kwS.map .str))), some (.ptr S0.length), some (.val (.int (b : Int))), some (.val (.int (m : Int))), some (.val (.int (p : Int))), t7, t8, t9] (S0 ++ [.lst ts])) ∧
    (¬ p < b → a[p] ∉ [32, 10] → match stepOf a p a[p] m with
      | .bad w => b__law_cut_told_1 [some (.val (.str (S a))), x1, some (.val (.lst (kwS.map .str))), some (.ptr S0.length), some (.val (.int (b : Int))), some (.val (.int (m : Int))), some (.val (.int (p : Int))), t7, t8, t9] (S0 ++ [.lst ts]) = .ret (.val (told p w)) (S0 ++ [.lst ts])
      | .go t q m' => m' ≤ 20 ∧ ∃ u7 u8 u9, b__law_cut_told_1 [some (.val (.str (S a))), x1, some (.val (.lst (kwS.map .str))), some (.ptr S0.length), some (.val (.int (b : Int))), some (.val (.int (m : Int))), some (.val (.int (p : Int))), t7, t8, t9] (S0 ++ [.lst ts]) = .nx [some (.val (.str (S a))), x1, some (.val (.lst (kwS.map .str))), some (.ptr S0.length), some (.val (.int (q : Int))), some (.val (.int (m' : Int))), some (.val (.int (p : Int))), u7, u8, u9] (S0 ++ [.lst (ts ++ [t])])) := by
  have i1 := ix_S (szM hz) hp
  have k1 := in_S [32, 10] a[p]
  have l1 : ts.length < sizeLine := by rw [x_size]; omega
  constructor
  · intro hb
    unfold b__law_cut_told_1
    rw [BL]
    by_cases c : p < b
    · have c' : (p : Int) < (b : Int) := by omega
      simp [c, c']
    · have hb : a[p] ∈ [32, 10] := hb.resolve_left c
      rw [decide_eq_true hb] at k1
      simp [c, i1, k1]
  · intro c hb
    rw [decide_eq_false hb] at k1
    have k2 := in_S lets a[p]
    have k3 := in_S figs a[p]
    have cb : ¬ (p : Int) < (b : Int) := by omega
    have g1 := runEnd_ge (lets ++ figs) a p
    have g2 := runEnd_ge figs a p
    have le1 := runEnd_le (sg := lets ++ figs) (a := a) (p := p) (by omega)
    have le2 := runEnd_le (sg := figs) (a := a) (p := p) (by omega)
    have er1 := law_end_ok (sg := lets ++ figs) hz (p := p) (by omega) (S0 ++ [.lst ts])
    have er2 := law_end_ok (sg := figs) hz (p := p) (by omega) (S0 ++ [.lst ts])
    have sl1 := sl_S (szM hz) g1 (by omega)
    have sl2 := sl_S (szM hz) g2 (by omega)
    have l2 : 2 ≤ sizeLine := by rw [x_size]; decide
    have l3 : 3 ≤ sizeLine := by rw [x_size]; decide
    have l0 : 0 ≤ sizeLine := Nat.zero_le _
    unfold stepOf b__law_cut_told_1
    rw [BL, LET, FIG, LF]
    by_cases c2 : a[p] ∈ lets
    · rw [decide_eq_true c2] at k2
      rw [if_pos c2]
      have cl := cut_len (a := a) (p := p) le1
      have ln := len_S (a := cut a p (runEnd (lets ++ figs) a p)) (by rw [cl, x_size]; omega)
      rw [cl] at ln
      have hc : ∀ c ∈ cut a p (runEnd (lets ++ figs) a p), c < 128 := fun c h => ha c (List.mem_of_mem_drop (List.mem_of_mem_take h))
      have kw := any_strs (S_ok hc) kw_ok
      change slD _ _ _ = some (O.val (.str (S (cut a p (runEnd (lets ++ figs) a p))))) at sl1
      by_cases c : 8 < runEnd (lets ++ figs) a p - p
      · rw [if_pos c]
        have c' : (8 : Int) < ((runEnd (lets ++ figs) a p - p : Nat) : Int) := by omega
        generalize ((runEnd (lets ++ figs) a p - p : Nat) : Int) = E at *
        simp [cb, i1, k1, k2, er1, sl1, ln, c', told, l0, l2]
      · rw [if_neg c]
        have c' : ¬ (8 : Int) < ((runEnd (lets ++ figs) a p - p : Nat) : Int) := by omega
        refine ⟨hm, some (.val (.str (S (cut a p (runEnd (lets ++ figs) a p))))), t8, t9, ?_⟩
        generalize ((runEnd (lets ++ figs) a p - p : Nat) : Int) = E at *
        unfold wordTok isKw
        by_cases ck : S (cut a p (runEnd (lets ++ figs) a p)) ∈ kwS
        · rw [decide_eq_true ck] at kw
          simp [cb, i1, k1, k2, er1, sl1, ln, c', kw, ck, l3, l1]
        · rw [decide_eq_false ck] at kw
          simp [cb, i1, k1, k2, er1, sl1, ln, c', kw, ck, l3, l1]
    · rw [decide_eq_false c2] at k2
      rw [if_neg c2]
      by_cases c3 : a[p] ∈ figs
      · rw [decide_eq_true c3] at k3
        rw [if_pos c3]
        have pe : p < runEnd figs a p := by rw [run_in hp c3]; have := runEnd_ge figs a (p + 1); omega
        have cl := cut_len (a := a) (p := p) le2
        have hc : ∀ c ∈ cut a p (runEnd figs a p), c < 128 := fun c h => ha c (List.mem_of_mem_drop (List.mem_of_mem_take h))
        have hf := cut_figs (a := a) (p := p)
        change slD _ _ _ = some (O.val (.str (S (cut a p (runEnd figs a p))))) at sl2
        generalize hw : cut a p (runEnd figs a p) = r at *
        have rl : r.length ≤ sizeLine := by rw [cl, x_size]; omega
        have ln := len_S (a := r) rl
        have rp : 0 < r.length := by omega
        have i0 : ixD (.str (S r)) (.int 0) = some (.str (S [r[0]])) := ix_S (a := r) rl (p := 0) rp
        have hh : r.head? = some r[0] := by rw [List.head?_eq_getElem?, List.getElem?_eq_getElem rp]
        have q0 : eqD (.str (S [r[0]])) (.str (S [48])) = some (decide (r[0] = 48)) := by
          rw [S_eqD (fun c h => by rw [List.mem_singleton.mp h]; exact hc _ (List.getElem_mem _)) (fun c h => by rw [List.mem_singleton.mp h]; decide)]
          simp
        have q48 : eqD (.str (S [48])) (.str (S [48])) = some true := by rw [S_eqD (by decide) (by decide)]; rfl
        unfold numBad
        rw [hh, zero_S]
        by_cases c1 : 4 < r.length
        · have c1' : (4 : Int) < (r.length : Int) := by omega
          simp [cb, i1, k1, k2, k3, er2, sl2, ln, c1, c1', told, l0, l2]
        · have c1' : ¬ (4 : Int) < (r.length : Int) := by omega
          have wo := worth_ok hf (List.ne_nil_of_length_pos rp) (by omega)
          by_cases d3 : r[0] = 48
          · by_cases d2 : 1 < r.length
            · have d2' : (1 : Int) < (r.length : Int) := by omega
              simp [cb, i1, k1, k2, k3, er2, sl2, ln, c1, c1', i0, q48, d3, d2, d2', told, l0, l2]
            · have d2' : ¬ (1 : Int) < (r.length : Int) := by omega
              by_cases c4 : 4095 < worth r
              · simp [cb, i1, k1, k2, k3, er2, sl2, ln, c1, c1', i0, q48, d3, d2, d2', told, l0, l2, wo, c4]
              · simp [cb, i1, k1, k2, k3, er2, sl2, ln, c1, c1', i0, q48, d3, d2, d2', l3, l1, wo, c4, numTok, hm]
          · by_cases c4 : 4095 < worth r
            · simp [cb, i1, k1, k2, k3, er2, sl2, ln, c1, c1', i0, q0, d3, told, l0, l2, wo, c4]
            · simp [cb, i1, k1, k2, k3, er2, sl2, ln, c1, c1', i0, q0, d3, l3, l1, wo, c4, numTok, hm]
      · rw [decide_eq_false c3] at k3
        rw [if_neg c3]
        have sa := sign_at_ok hz ha hp (S0 ++ [.lst ts])
        cases h : signAt a p with
        | none =>
          rw [h, Option.getD_none] at sa
          have q : eqD (.str (S [])) (.str "") = some true := by rw [E0, S_eqD (by decide) (by decide)]; rfl
          simp [cb, i1, k1, k2, k3, sa, q, told, l0, l2]
        | some s =>
          rw [h, Option.getD_some] at sa
          have sm := sign_mem h
          obtain ⟨s1, s2, s3⟩ := all_small s sm
          have q : eqD (.str (S s)) (.str "") = some false := by rw [E0, S_eqD s1 (by decide), decide_eq_false s3]
          have o1 := in_open s sm
          have o2 := in_close s sm
          have ln := len_S (a := s) (by rw [x_size]; omega)
          have e : (p : Int) + (s.length : Int) = ((p + s.length : Nat) : Int) := by omega
          dsimp only
          unfold many'
          by_cases co : s ∈ [[40], [91], [123]]
          · have cc : s ∉ [[41], [93], [125]] := fun z => by
              simp only [List.mem_cons, List.not_mem_nil, or_false] at co z
              rcases co with rfl | rfl | rfl <;> simp at z
            rw [decide_eq_true co] at o1
            rw [decide_eq_false cc] at o2
            rw [if_pos co]
            by_cases c : 20 < m + 1
            · rw [if_pos c]
              have c' : (m : Int) + 1 = 21 := by omega
              simp [cb, i1, k1, k2, k3, sa, q, o1, o2, c', told, l0, l2]
            · rw [if_neg c]
              have c' : ¬ (m : Int) + 1 = 21 := by omega
              have e' : (m : Int) + 1 = ((m + 1 : Nat) : Int) := by omega
              rw [e'] at c'
              refine ⟨by omega, t7, t8, some (.val (.str (S s))), ?_⟩
              generalize ((m + 1 : Nat) : Int) = M at *
              generalize ((p + s.length : Nat) : Int) = P at *
              simp [cb, i1, k1, k2, k3, sa, q, o1, o2, e', c', signTok, ln, e, l1, l3]
          · rw [decide_eq_false co] at o1
            rw [if_neg co]
            by_cases cc : s ∈ [[41], [93], [125]]
            · rw [decide_eq_true cc] at o2
              rw [if_pos cc, if_neg (by omega)]
              have mx : max2B [.int 0, .int ((m : Int) - 1)] = some (.val (.int ((m - 1 : Nat) : Int))) := by
                rw [x_max]
                congr 3
                split <;> omega
              have c' : ¬ ((m - 1 : Nat) : Int) = 21 := by omega
              refine ⟨by omega, t7, t8, some (.val (.str (S s))), ?_⟩
              generalize ((m - 1 : Nat) : Int) = M at *
              generalize ((p + s.length : Nat) : Int) = P at *
              simp [-x_max, cb, i1, k1, k2, k3, sa, q, o1, o2, mx, c', signTok, ln, e, l1, l3]
            · rw [decide_eq_false cc] at o2
              rw [if_neg cc, if_neg (by omega)]
              have c' : ¬ (m : Int) = 21 := by omega
              refine ⟨hm, t7, t8, some (.val (.str (S s))), ?_⟩
              generalize ((p + s.length : Nat) : Int) = P at *
              simp [cb, i1, k1, k2, k3, sa, q, o1, o2, c', signTok, ln, e, l1, l3]
end UI.LW
namespace UI.LW
open PySem SX
/-- a token -/
inductive Tok : D → Prop
  | num (i : Int) (q : Nat) : Tok (.tup [.str "number", .int i, .int (q : Int)])
  | txt (k s : Str) (q : Nat) (hk : PyData.strOk k = true) (hs : PyData.strOk s = true) (hn : eqD (.str k) (.str "number") = some false) : Tok (.tup [.str k, .str s, .int (q : Int)])
theorem step_go {a : List Nat} (ha : ∀ c ∈ a, c < 128) {p m q m' : Nat} {t : D} (hp : p < a.length) (h : stepOf a p a[p] m = .go t q m') : p < q ∧ q ≤ a.length ∧ Tok t := by
  have hcut : ∀ e, ∀ c ∈ cut a p e, c < 128 := fun e c h => ha c (List.mem_of_mem_drop (List.mem_of_mem_take h))
  unfold stepOf at h
  split at h
  · rename_i c2
    split at h
    · cases h
    · simp only [LStep.go.injEq] at h
      obtain ⟨rfl, rfl, rfl⟩ := h
      refine ⟨?_, runEnd_le (by omega), ?_⟩
      · rw [run_in hp (List.mem_append_left _ c2)]
        have := runEnd_ge (lets ++ figs) a (p + 1)
        omega
      · unfold wordTok
        split
        · exact .txt _ _ _ (by decide +kernel) (S_ok (hcut _)) (by rw [x_eqS (by decide +kernel) (by decide +kernel)]; decide +kernel)
        · exact .txt _ _ _ (by decide +kernel) (S_ok (hcut _)) (by rw [x_eqS (by decide +kernel) (by decide +kernel)]; decide +kernel)
  · split at h
    · rename_i c3
      split at h
      · cases h
      · simp only [LStep.go.injEq] at h
        obtain ⟨rfl, rfl, rfl⟩ := h
        refine ⟨?_, runEnd_le (by omega), .num _ _⟩
        rw [run_in hp c3]
        have := runEnd_ge figs a (p + 1)
        omega
    · split at h
      · cases h
      · rename_i s hs
        split at h
        · cases h
        · simp only [LStep.go.injEq] at h
          obtain ⟨rfl, rfl, rfl⟩ := h
          obtain ⟨s1, s2, s3⟩ := all_small s (sign_mem hs)
          have hl : 0 < s.length := List.length_pos_iff.mpr s3
          have hf := signAt_find a p
          rw [hs] at hf
          have hq := of_decide_eq_true (List.find?_some (p := fun s => decide ((a.drop p).take s.length = s)) hf)
          have hq := congrArg List.length hq
          rw [List.length_take, List.length_drop] at hq
          exact ⟨by omega, by omega, .txt _ _ _ (by decide +kernel) (S_ok s1) (by rw [x_eqS (by decide +kernel) (by decide +kernel)]; decide +kernel)⟩
/-- the law passes over what is behind -/
theorem told_skip {a : List Nat} (hz : a.length ≤ 1000000) (ha : ∀ c ∈ a, c < 128) {m b : Nat} (hm : m ≤ 20) (hb : b ≤ a.length) (x1 t7 t8 t9 : Option O) (S0 : Store) (ts : List D) (hts : ts.length < 2000000) (k : Nat) : ∀ (p : Nat) (x6 : Option O), p + k = b → ∃ x6', forI (gNm 6) b__law_cut_told_1 (rngD (p : Int) (a.length - p)) [some (.val (.str (S a))), x1, some (.val (.lst (kwS.map .str))), some (.ptr S0.length), some (.val (.int (b : Int))), some (.val (.int (m : Int))), x6, t7, t8, t9] (S0 ++ [.lst ts]) =
    forI (gNm 6) b__law_cut_told_1 (rngD (b : Int) (a.length - b)) [some (.val (.str (S a))), x1, some (.val (.lst (kwS.map .str))), some (.ptr S0.length), some (.val (.int (b : Int))), some (.val (.int (m : Int))), x6', t7, t8, t9] (S0 ++ [.lst ts]) := by
  induction k with
  | zero =>
    intro p x6 h
    have e : p = b := by omega
    subst e
    exact ⟨x6, rfl⟩
  | succ k ih =>
    intro p x6 h
    have hp : p < a.length := by omega
    obtain ⟨x6', e⟩ := ih (p + 1) (some (.val (.int (p : Int)))) (by omega)
    refine ⟨x6', ?_⟩
    have tb := (toldBody hz ha hp (b := b) hm x1 t7 t8 t9 S0 ts hts).1 (.inl (by omega))
    rw [show a.length - p = (a.length - (p + 1)) + 1 by omega, x_rng, x_for_cons]
    simp only [x_gNm, List.length_cons, List.length_nil, Nat.reduceAdd, Nat.reduceLT, if_true, List.set_cons_succ, List.set_cons_zero, x_opt_some, tb, x_loop_ct]
    rw [show (p : Int) + 1 = ((p + 1 : Nat) : Int) by omega, e]
def cutTest : Tv := tCmp .Lt (eSlot 3) (eCallB lenB (aCons (eSlot 0) (aNil)))
/-- the tokens from p on, m brackets open -/
inductive Lex (a : List Nat) : Nat → Nat → List D → Prop
  | nil (m : Nat) : Lex a a.length m []
  | blank {p m : Nat} {ts : List D} (h : p < a.length) (b : a[p] ∈ [32, 10]) (l : Lex a (p + 1) m ts) : Lex a p m ts
  | tok {p m q m' : Nat} {t : D} {ts : List D} (h : p < a.length) (b : a[p] ∉ [32, 10]) (s : stepOf a p a[p] m = .go t q m') (l : Lex a q m' ts) : Lex a p m (t :: ts)
/-- .. there is a fault -/
inductive LexB (a : List Nat) : Nat → Nat → Prop
  | bad {p m : Nat} {w : Str} (h : p < a.length) (b : a[p] ∉ [32, 10]) (s : stepOf a p a[p] m = .bad w) : LexB a p m
  | blank {p m : Nat} (h : p < a.length) (b : a[p] ∈ [32, 10]) (l : LexB a (p + 1) m) : LexB a p m
  | tok {p m q m' : Nat} {t : D} (h : p < a.length) (b : a[p] ∉ [32, 10]) (s : stepOf a p a[p] m = .go t q m') (l : LexB a q m') : LexB a p m
/-- both come to the same end -/
theorem sim {a : List Nat} (hz : a.length ≤ 1000000) (ha : ∀ c ∈ a, c < 128) (y1 x1 : Option O) (S0 S1 : Store) (k : Nat) : ∀ (p m b n : Nat) (ts : List D) (y5 y6 x6 t7 t8 t9 : Option O), a.length - p = k → p ≤ a.length → b ≤ p → m ≤ 20 → k < n → ts.length ≤ p → (∀ t ∈ ts, Tok t) →
    ∃ (r : Option (Nat × Str)) (ts' : List D), (∀ t ∈ ts', Tok t) ∧ ts'.length ≤ a.length ∧ match r with
      | some (p', w) => LexB a p m ∧ PyData.strOk w = true ∧ (∃ ρ, whileI cutTest b_cut_text_1 n [some (.val (.str (S a))), y1, some (.ptr S0.length), some (.val (.int (p : Int))), some (.val (.int (m : Int))), y5, y6] (S0 ++ [.lst ts]) = .exc (badText p' w) ρ (S0 ++ [.lst ts'])) ∧
          forI (gNm 6) b__law_cut_told_1 (rngD (p : Int) (a.length - p)) [some (.val (.str (S a))), x1, some (.val (.lst (kwS.map .str))), some (.ptr S1.length), some (.val (.int (b : Int))), some (.val (.int (m : Int))), x6, t7, t8, t9] (S1 ++ [.lst ts]) = .ret (.val (told p' w)) (S1 ++ [.lst ts'])
      | none => (∃ more, ts' = ts ++ more ∧ Lex a p m more) ∧ (∃ m' y5' y6', whileI cutTest b_cut_text_1 n [some (.val (.str (S a))), y1, some (.ptr S0.length), some (.val (.int (p : Int))), some (.val (.int (m : Int))), y5, y6] (S0 ++ [.lst ts]) = .nx [some (.val (.str (S a))), y1, some (.ptr S0.length), some (.val (.int (a.length : Int))), m', y5', y6'] (S0 ++ [.lst ts'])) ∧
          ∃ t4 t5 t6' t7' t8' t9', forI (gNm 6) b__law_cut_told_1 (rngD (p : Int) (a.length - p)) [some (.val (.str (S a))), x1, some (.val (.lst (kwS.map .str))), some (.ptr S1.length), some (.val (.int (b : Int))), some (.val (.int (m : Int))), x6, t7, t8, t9] (S1 ++ [.lst ts]) = .nx [some (.val (.str (S a))), x1, some (.val (.lst (kwS.map .str))), some (.ptr S1.length), t4, t5, t6', t7', t8', t9'] (S1 ++ [.lst ts']) := by
  induction k using Nat.strongRecOn with
  | ind k ih =>
    intro p m b n ts y5 y6 x6 t7 t8 t9 hk hp hb hm hn htl htk
    obtain ⟨n, rfl⟩ : ∃ j, n = j + 1 := ⟨n - 1, by omega⟩
    have ln := len_S (szM hz)
    have test : cutTest [some (.val (.str (S a))), y1, some (.ptr S0.length), some (.val (.int (p : Int))), some (.val (.int (m : Int))), y5, y6] (S0 ++ [.lst ts]) = .ok (decide (p < a.length)) (S0 ++ [.lst ts]) := by
      unfold cutTest
      simp [ln]
    rw [x_while, test, x_lift_ok]
    by_cases hlt : p < a.length
    · rw [decide_eq_true hlt, if_pos rfl]
      obtain ⟨cb1, cb2⟩ := cutBody hz ha hlt (m := m) y1 y5 y6 S0 ts (by omega)
      obtain ⟨tb1, tb2⟩ := toldBody hz ha hlt (b := b) hm x1 t7 t8 t9 S1 ts (by omega)
      have rg : rngD (p : Int) (a.length - p) = .int (p : Int) :: rngD ((p + 1 : Nat) : Int) (a.length - (p + 1)) := by
        rw [show a.length - p = (a.length - (p + 1)) + 1 by omega, x_rng, show (p : Int) + 1 = ((p + 1 : Nat) : Int) by omega]
      rw [rg, x_for_cons]
      simp only [x_gNm, List.length_cons, List.length_nil, Nat.reduceAdd, Nat.reduceLT, if_true, List.set_cons_succ, List.set_cons_zero, x_opt_some]
      by_cases bl : a[p] ∈ [32, 10]
      · rw [cb1 bl, tb1 (.inr bl), x_loop_ct, x_loop_ct]
        obtain ⟨r, ts', z1, z2, z3⟩ := ih (k - 1) (by omega) (p + 1) m b n ts y5 y6 (some (.val (.int (p : Int)))) t7 t8 t9 (by omega) (by omega) (by omega) hm (by omega) (by omega) htk
        refine ⟨r, ts', z1, z2, ?_⟩
        cases r with
        | none => exact ⟨z3.1.imp fun more q => ⟨q.1, .blank hlt bl q.2⟩, z3.2⟩
        | some q => exact ⟨.blank hlt bl z3.1, z3.2⟩
      · have cb := cb2 bl
        have tb := tb2 (by omega) bl
        cases hs : stepOf a p a[p] m with
        | bad w =>
          rw [hs] at cb tb
          obtain ⟨ρ, cb⟩ := cb
          refine ⟨some (p, w), ts, htk, by omega, .bad hlt bl hs, ?_, ⟨ρ, by rw [cb, x_loop_exc]⟩, by rw [tb, x_loop_ret]⟩
          unfold stepOf at hs
          split at hs
          · split at hs <;> cases hs <;> decide +kernel
          · split at hs
            · split at hs <;> cases hs <;> decide +kernel
            · split at hs
              · cases hs; decide +kernel
              · split at hs <;> cases hs <;> decide +kernel
        | go t q m' =>
          rw [hs] at cb tb
          obtain ⟨t6', cb⟩ := cb
          obtain ⟨hm', t7', t8', t9', tb⟩ := tb
          obtain ⟨g1, g2, g3⟩ := step_go ha hlt hs
          rw [cb, tb, x_loop_nx, x_loop_nx]
          obtain ⟨x6', sk⟩ := told_skip hz ha (m := m') (b := q) hm' g2 x1 t7' t8' t9' S1 (ts ++ [t]) (by simp; omega) (q - (p + 1)) (p + 1) (some (.val (.int (p : Int)))) (by omega)
          rw [sk]
          obtain ⟨r, ts', z1, z2, z3⟩ := ih (a.length - q) (by omega) q m' q n (ts ++ [t]) (some (.val t)) t6' x6' t7' t8' t9' rfl g2 (Nat.le_refl _) hm' (by omega) (by simp; omega) fun z hz => by
            rcases List.mem_append.mp hz with h | h
            · exact htk z h
            · rw [List.mem_singleton.mp h]; exact g3
          refine ⟨r, ts', z1, z2, ?_⟩
          cases r with
          | none =>
            obtain ⟨⟨more, e1, e2⟩, z4⟩ := z3
            exact ⟨⟨t :: more, by rw [e1, List.append_assoc]; rfl, .tok hlt bl hs e2⟩, z4⟩
          | some q => exact ⟨.tok hlt bl hs z3.1, z3.2⟩
    · have e : p = a.length := by omega
      subst e
      rw [decide_eq_false hlt, if_neg (by decide), Nat.sub_self]
      exact ⟨none, ts, htk, htl, ⟨[], by simp, .nil m⟩, ⟨_, _, _, rfl⟩, _, _, _, _, _, _, rfl⟩
end UI.LW
namespace UI.LW
open PySem SX
def endTok (n : Nat) : D := .tup [.str "end", .str "", .int (n : Int)]
theorem endTok_ok (n : Nat) : Tok (endTok n) := .txt _ _ _ (by decide +kernel) (by decide +kernel) (by rw [x_eqS (by decide +kernel) (by decide +kernel)]; decide +kernel)
def bt (i : Int) (w : Str) : Xc := ⟨"BadText", [("spot", .int i), ("what", .str w)]⟩
theorem both {a : List Nat} (hz : a.length ≤ 1000000) (ha : ∀ c ∈ a, c < 128) (most : Int) (St : Store) : ∃ (f : Option (Int × Str)) (ts : List D), (∀ t ∈ ts, Tok t) ∧ ts.length ≤ a.length + 1 ∧ match f with
    | some (i, w) => (most < (a.length : Int) ∨ LexB a 0 0) ∧ PyData.strOk w = true ∧ F_cut_text [.val (.str (S a)), .val (.int most)] St = .exc (bt i w) St ∧ F__law_cut_told [.val (.str (S a)), .val (.int most)] St = .ok (.val (.tup [.tup [.int i, .str w], .lst []])) St
    | none => (∃ more, ts = more ++ [endTok a.length] ∧ Lex a 0 0 more) ∧ F_cut_text [.val (.str (S a)), .val (.int most)] St = .ok (.val (.tup ts)) St ∧ F__law_cut_told [.val (.str (S a)), .val (.int most)] St = .ok (.val (.tup [.non, .lst ts])) St := by
  have ln := len_S (szM hz)
  have l0 : 0 ≤ sizeLine := Nat.zero_le _
  have l1 : 1 ≤ sizeLine := by rw [x_size]; decide
  have l2 : 2 ≤ sizeLine := by rw [x_size]; decide
  have l3 : 3 ≤ sizeLine := by rw [x_size]; decide
  by_cases c : most < (a.length : Int)
  · refine ⟨some (-1, "long"), [], fun t h => by simp at h, by simp, .inl c, by decide +kernel, ?_, ?_⟩
    · unfold F_cut_text bt
      rw [x_mkF]
      simp [c_cut_text, ln, c]
    · unfold F__law_cut_told
      rw [x_mkF]
      simp [c__law_cut_told, ln, c, l0, l2]
  · obtain ⟨n, hn, hn2⟩ := fuel
    obtain ⟨r, ts, htk, htl, h⟩ := sim hz ha (some (.val (.int most))) (some (.val (.int most))) St St a.length 0 0 0 n [] none none none none none none (by omega) (by omega) (by omega) (by omega) (by omega) (by simp) (fun t h => by simp at h)
    have w1 : -4611686018427387904 ≤ (a.length : Int) := by omega
    have w2 : (a.length : Int) < 4611686018427387904 := by omega
    have s1 := split_kw
    unfold cutTest at h
    cases r with
    | some q =>
      obtain ⟨p', w⟩ := q
      obtain ⟨hb, hw, ⟨ρ, h1⟩, h2⟩ := h
      refine ⟨some ((p' : Int), w), [], fun t h => by simp at h, by simp, .inr hb, hw, ?_, ?_⟩
      · have h1' : whileI (tCmp .Lt (eSlot 3) (eCallB lenB (aCons (eSlot 0) (aNil)))) b_cut_text_1 n [some (.val (.str (S a))), some (.val (.int most)), some (.ptr St.length), some (.val (.int 0)), some (.val (.int 0)), none, none] (St ++ [.lst []]) = .exc (badText p' w) ρ (St ++ [.lst ts]) := h1
        unfold F_cut_text bt
        rw [x_mkF]
        simp [c_cut_text, ln, c, l0, hn, h1', badText]
      · have h2' : forI (gNm 6) b__law_cut_told_1 (rngD 0 a.length) [some (.val (.str (S a))), some (.val (.int most)), some (.val (.lst (kwS.map .str))), some (.ptr St.length), some (.val (.int 0)), some (.val (.int 0)), none, none, none, none] (St ++ [.lst []]) = .ret (.val (told p' w)) (St ++ [.lst ts]) := h2
        generalize hK : kwS.map D.str = KW at *
        unfold F__law_cut_told
        rw [x_mkF]
        simp [c__law_cut_told, ln, c, l0, s1, w1, w2, h2', told]
    | none =>
      obtain ⟨⟨more, hmo, hlex⟩, ⟨m', y5, y6, h1⟩, t4, t5, t6, t7, t8, t9, h2⟩ := h
      have lt : ts.length < sizeLine := by rw [x_size]; omega
      have lt1 : ts.length + 1 ≤ sizeLine := by rw [x_size]; omega
      refine ⟨none, ts ++ [endTok a.length], fun t h => ?_, by simp; omega, ⟨more, by rw [hmo]; rfl, hlex⟩, ?_, ?_⟩
      · rcases List.mem_append.mp h with z | z
        · exact htk t z
        · rw [List.mem_singleton.mp z]; exact endTok_ok _
      · have h1' : whileI (tCmp .Lt (eSlot 3) (eCallB lenB (aCons (eSlot 0) (aNil)))) b_cut_text_1 n [some (.val (.str (S a))), some (.val (.int most)), some (.ptr St.length), some (.val (.int 0)), some (.val (.int 0)), none, none] (St ++ [.lst []]) = _ := h1
        unfold F_cut_text endTok
        rw [x_mkF]
        simp [c_cut_text, ln, c, l0, l3, hn, h1', lt]
      · have h2' : forI (gNm 6) b__law_cut_told_1 (rngD 0 a.length) [some (.val (.str (S a))), some (.val (.int most)), some (.val (.lst (kwS.map .str))), some (.ptr St.length), some (.val (.int 0)), some (.val (.int 0)), none, none, none, none] (St ++ [.lst []]) = _ := h2
        generalize hK : kwS.map D.str = KW at *
        unfold F__law_cut_told endTok
        rw [x_mkF]
        simp [c__law_cut_told, ln, c, l0, l1, l2, l3, s1, w1, w2, h2', lt1]
end UI.LW
namespace UI.LW
open PySem SX
def alnum (c : Nat) : Bool := decide (c ∈ lets) || decide (c ∈ figs)
def nm (l : List Nat) : Bool := decide (0 < l.length ∧ l.length ≤ 8) && (decide ((l.head?.getD 0) ∈ lets) && (l.all alnum && !isKw (S l)))
theorem bools_nat (l : List Nat) (f : Nat → Bool) : boolsOf (l.map fun d => .bl (f d)) = some (l.map f) := by
  induction l with
  | nil => rfl
  | cons d ds ih => simp [boolsOf, ih]
theorem all_nat (l : List Nat) (f : Nat → Bool) : allB [.lst (l.map fun d => .bl (f d))] = some (.val (.bl (l.all f))) := by
  unfold allB
  simp only [bools_nat, Option.map_some, List.all_map]
  rfl
theorem name_go (l : List Nat) : ∀ (a b : Option O) (St : Store), compI (gNm 1) tYes (eOr (eB (tCmp .In (eSlot 1) (eC (.str (S lets))))) (eB (tCmp .In (eSlot 1) (eC (.str (S figs)))))) [a, b] (l.map fun c => .str (S [c])) St = .ok (l.map fun c => .bl (alnum c)) St := by
  induction l with
  | nil => intro a b St; simp
  | cons c l ih =>
    intro a b St
    have k2 := in_S lets c
    have k3 := in_S figs c
    have h := ih a b St
    rw [List.map_cons, List.map_cons, x_comp_cons]
    by_cases c2 : c ∈ lets
    · have ac : alnum c = true := by unfold alnum; rw [decide_eq_true c2, Bool.true_or]
      rw [decide_eq_true c2] at k2
      rw [ac]
      generalize hG : l.map (fun c => D.bl (alnum c)) = G at *
      simp [k2]
      rw [h]
      rfl
    · have ac : alnum c = decide (c ∈ figs) := by unfold alnum; rw [decide_eq_false c2, Bool.false_or]
      rw [decide_eq_false c2] at k2
      rw [ac]
      generalize hG : l.map (fun c => D.bl (alnum c)) = G at *
      simp [k2, k3]
      rw [h]
      rfl
theorem is_name_ok {l : List Nat} (hl : l.length ≤ 100000) (St : Store) : F_is_name [.val (.str (S l))] St = .ok (.val (.bl (nm l))) St := by
  have hz : l.length ≤ sizeLine := by rw [x_size]; omega
  have ln := len_S hz
  have kw := keyword_ok (S l) St
  have go := name_go l (some (.val (.str (S l)))) none St
  have al := all_nat l alnum
  have lz : l.length < sizeLine := by rw [x_size]; omega
  have it : (S l).cps.toList.map (fun c => D.str ⟨#[c]⟩) = l.map fun c => .str (S [c]) := rfl
  unfold F_is_name nm
  rw [x_mkF]
  unfold c_is_name
  rw [LET, FIG]
  cases l with
  | nil => simp [ln]
  | cons c r =>
    have i0 : ixD (.str (S (c :: r))) (.int 0) = some (.str (S [c])) := ix_S hz (p := 0) (by simp)
    have k2 := in_S lets c
    have z0 : ¬ ((c :: r).length : Int) = 0 := by rw [List.length_cons]; omega
    generalize hL : c :: r = l at *
    have hd : (l.head?.getD 0) = c := by rw [← hL]; rfl
    rw [hd]
    have p0 : 0 < l.length := by rw [← hL]; simp
    have ne : l ≠ [] := by rw [← hL]; simp
    by_cases c8 : 8 < l.length
    · have c8' : (8 : Int) < (l.length : Int) := by omega
      have c9 : decide (0 < l.length ∧ l.length ≤ 8) = false := decide_eq_false (by omega)
      rw [c9]
      simp [ne, ln, z0, c8']
    · have c8' : ¬ (8 : Int) < (l.length : Int) := by omega
      have c9 : decide (0 < l.length ∧ l.length ≤ 8) = true := decide_eq_true (by omega)
      rw [c9]
      by_cases c2 : c ∈ lets
      · rw [decide_eq_true c2] at k2 ⊢
        have it' : (iVal (eSlot 0)) [some (.val (.str (S l))), none] St = .ok (l.map fun c => .str (S [c])) St := by
          rw [x_iVal]
          simp only [x_slot, List.getElem?_cons_zero, x_bind_ok, x_force_val, x_itS_str, x_of_some, it]
        have lm : (l.map fun c => D.str (S [c])).length < sizeLine := by rw [List.length_map]; exact lz
        generalize hG : (l.map fun c => D.str (S [c])) = G at *
        generalize hB : (l.map fun c => D.bl (alnum c)) = B at *
        cases hA : l.all alnum
        · rw [hA] at al
          simp [-x_iVal, ne, ln, z0, c8', i0, k2, it', lm, go, al]
        · rw [hA] at al
          simp [-x_iVal, ne, ln, z0, c8', i0, k2, it', lm, go, al, kw]
      · rw [decide_eq_false c2] at k2 ⊢
        simp [ne, ln, z0, c8', i0, k2]
end UI.LW
namespace UI.LW
open PySem SX
theorem Lex.inv {a : List Nat} {p m : Nat} {ts : List D} (h : Lex a p m ts) : (p = a.length ∧ ts = []) ∨ (∃ h : p < a.length, a[p] ∈ [32, 10]) ∨ (∃ (h : p < a.length) (q m' : Nat) (t : D) (ts' : List D), a[p] ∉ [32, 10] ∧ stepOf a p a[p] m = .go t q m' ∧ ts = t :: ts' ∧ Lex a q m' ts') := by
  cases h with
  | nil => exact .inl ⟨rfl, rfl⟩
  | blank h b l => exact .inr (.inl ⟨h, b⟩)
  | tok h b s l => exact .inr (.inr ⟨h, _, _, _, _, b, s, rfl, l⟩)
theorem LexB.inv {a : List Nat} {p m : Nat} (h : LexB a p m) : (∃ h : p < a.length, a[p] ∈ [32, 10]) ∨ (∃ h : p < a.length, ∃ w, stepOf a p a[p] m = .bad w) ∨ (∃ (h : p < a.length) (q m' : Nat) (t : D), stepOf a p a[p] m = .go t q m' ∧ LexB a q m') := by
  cases h with
  | bad h b s => exact .inr (.inl ⟨h, _, s⟩)
  | blank h b l => exact .inl ⟨h, b⟩
  | tok h b s l => exact .inr (.inr ⟨h, _, _, _, s, l⟩)
theorem lexB_end {a : List Nat} {m : Nat} (h : LexB a a.length m) : False := by
  rcases h.inv with ⟨h, _⟩ | ⟨h, _⟩ | ⟨h, _⟩ <;> exact absurd h (Nat.lt_irrefl _)
theorem lex_end {a : List Nat} {m : Nat} {ts : List D} (h : Lex a a.length m ts) : ts = [] := by
  rcases h.inv with ⟨_, h⟩ | ⟨h, _⟩ | ⟨h, _⟩
  · exact h
  · exact absurd h (Nat.lt_irrefl _)
  · exact absurd h (Nat.lt_irrefl _)
theorem alnum_mem {c : Nat} : alnum c = true ↔ c ∈ lets ++ figs := by
  unfold alnum
  rw [Bool.or_eq_true, decide_eq_true_eq, decide_eq_true_eq, List.mem_append]
theorem tw_all {p : Nat → Bool} : ∀ {l : List Nat}, (∀ c ∈ l, p c = true) → l.takeWhile p = l
  | [], _ => rfl
  | c :: l, h => by rw [List.takeWhile_cons, if_pos (h c (List.mem_cons_self ..)), tw_all fun d hd => h d (List.mem_cons_of_mem _ hd)]
theorem run_all {l : List Nat} (h : l.all alnum = true) : runEnd (lets ++ figs) l 0 = l.length := by
  unfold runEnd
  rw [List.drop_zero, Nat.zero_add]
  congr 1
  rw [tw_all]
  intro c hc
  exact decide_eq_true (alnum_mem.mp (List.all_eq_true.mp h c hc))
theorem all_run {l : List Nat} (h : runEnd (lets ++ figs) l 0 = l.length) : l.all alnum = true := by
  unfold runEnd at h
  rw [List.drop_zero, Nat.zero_add] at h
  have e := List.takeWhile_prefix (l := l) fun c => decide (c ∈ lets ++ figs)
  have e2 := e.eq_of_length h
  rw [List.all_eq_true]
  intro c hc
  rw [← e2] at hc
  have k := List.all_eq_true.mp (List.all_takeWhile (p := fun c => decide (c ∈ lets ++ figs)) (l := l)) c hc
  exact alnum_mem.mpr (of_decide_eq_true k)
theorem cut_all0 (l : List Nat) : cut l 0 l.length = l := by
  unfold cut
  rw [List.drop_zero, Nat.sub_zero, List.take_length]
theorem head0 {l : List Nat} (h : 0 < l.length) : l.head?.getD 0 = l[0] := by
  rw [List.head?_eq_getElem?, List.getElem?_eq_getElem h]
  rfl
theorem nm_step {l : List Nat} (h : nm l = true) : ∃ h0 : 0 < l.length, stepOf l 0 l[0] 0 = .go (wordTok l 0) l.length 0 ∧ isKw (S l) = false := by
  unfold nm at h
  simp only [Bool.and_eq_true, decide_eq_true_eq, Bool.not_eq_true'] at h
  obtain ⟨⟨h0, h8⟩, hc, ha, hk⟩ := h
  rw [head0 h0] at hc
  refine ⟨h0, ?_, hk⟩
  unfold stepOf
  rw [if_pos hc, run_all ha, if_neg (by omega), cut_all0]
theorem lexB_no {l : List Nat} (hb : ∀ c ∈ l, c ∉ [32, 10]) (h : LexB l 0 0) : nm l = false := by
  cases e : nm l with
  | false => rfl
  | true =>
    obtain ⟨h0, hs, hk⟩ := nm_step e
    rcases h.inv with ⟨h, b⟩ | ⟨h, w, s⟩ | ⟨h, q, m', t, s, l'⟩
    · exact absurd b (hb _ (List.getElem_mem h))
    · rw [hs] at s; cases s
    · rw [hs] at s
      cases s
      exact (lexB_end l').elim
theorem lex_due {l : List Nat} {more : List D} (hb : ∀ c ∈ l, c ∉ [32, 10]) (h : Lex l 0 0 more) : (∀ t, more = [t] → ∃ k v w, t = .tup [.str k, v, w] ∧ eqD (.str k) (.str "name") = some (nm l)) ∧ (more.length ≠ 1 → nm l = false) := by
  have nW : eqD (.str "word") (.str "name") = some false := by rw [x_eqS (by decide +kernel) (by decide +kernel)]; decide +kernel
  have nN : eqD (.str "name") (.str "name") = some true := by rw [x_eqS (by decide +kernel) (by decide +kernel)]; decide +kernel
  have nU : eqD (.str "number") (.str "name") = some false := by rw [x_eqS (by decide +kernel) (by decide +kernel)]; decide +kernel
  have nS : eqD (.str "sign") (.str "name") = some false := by rw [x_eqS (by decide +kernel) (by decide +kernel)]; decide +kernel
  cases e : nm l with
  | true =>
    obtain ⟨h0, hs, hk⟩ := nm_step e
    rcases h.inv with ⟨h, _⟩ | ⟨h, b⟩ | ⟨h, q, m', t, ts', b, s, rfl, l'⟩
    · omega
    · exact absurd b (hb _ (List.getElem_mem h))
    · rw [hs] at s
      cases s
      have := lex_end l'
      subst this
      refine ⟨fun t ht => ?_, fun z => absurd rfl z⟩
      cases ht
      unfold wordTok
      rw [hk]
      exact ⟨_, _, _, rfl, nN⟩
  | false =>
    refine ⟨fun t ht => ?_, fun _ => rfl⟩
    subst ht
    rcases h.inv with ⟨_, h⟩ | ⟨h, b⟩ | ⟨hlt, q, m', t', ts', b, s, e1, l'⟩
    · cases h
    · exact absurd b (hb _ (List.getElem_mem h))
    · cases e1
      have hq : q = l.length := by
        rcases l'.inv with ⟨h, _⟩ | ⟨h, b⟩ | ⟨h, _, _, _, _, _, _, z, _⟩
        · exact h
        · exact absurd b (hb _ (List.getElem_mem h))
        · cases z
      subst hq
      unfold stepOf at s
      split at s
      · rename_i c2
        split at s
        · cases s
        · rename_i c8
          simp only [LStep.go.injEq] at s
          obtain ⟨rfl, hq, _⟩ := s
          rw [hq, cut_all0]
          have ha := all_run hq
          have hk : isKw (S l) = true := by
            cases hk : isKw (S l) with
            | true => rfl
            | false =>
              have : nm l = true := by
                unfold nm
                rw [head0 hlt, hk, ha, decide_eq_true c2, decide_eq_true (show 0 < l.length ∧ l.length ≤ 8 by omega)]
                rfl
              rw [this] at e
              cases e
          unfold wordTok
          rw [hk]
          exact ⟨_, _, _, rfl, nW⟩
      · split at s
        · split at s
          · cases s
          · simp only [LStep.go.injEq] at s
            obtain ⟨rfl, _, _⟩ := s
            exact ⟨_, _, _, rfl, nU⟩
        · split at s
          · cases s
          · split at s
            · cases s
            · simp only [LStep.go.injEq] at s
              obtain ⟨rfl, _, _⟩ := s
              exact ⟨_, _, _, rfl, nS⟩
end UI.LW
namespace UI.LW
open PySem SX
/-- signs of a piece: no blank among them -/
def chB (c : Nat) : Bool := decide (c < 128 ∧ c ≠ 32 ∧ c ≠ 10)
def goodS (n : Nat) (s : Str) : Prop := s.cps.toList.all chB = true ∧ s.cps.toList.length ≤ n
theorem good_S {a : List Nat} {n : Nat} (h : a.all chB = true) (hl : a.length ≤ n) : goodS n (S a) := ⟨h, hl⟩
theorem good_cat {x y : Str} {m n k : Nat} (hx : goodS m x) (hy : goodS n y) (hk : m + n ≤ k) : goodS k (x ++ y) := by
  rw [← S_tl x, ← S_tl y, S_cat]
  exact good_S (by rw [List.all_append, hx.1, hy.1]; rfl) (by rw [List.length_append]; have := hx.2; have := hy.2; omega)
theorem good_len {x : Str} {n : Nat} (h : goodS n x) : x.length ≤ n := by
  rw [← S_tl x, S_len]
  exact h.2
theorem good_num {n k : Nat} (hk : 0 < k) (h : n < 10 ^ k) : goodS k (toString (n : Int) : String) := by
  show goodS k (Str.ofString (toString (n : Int)))
  rw [num_S]
  refine good_S ?_ (TL.numL_len hk h)
  rw [List.all_eq_true]
  intro c hc
  have := TL.numL_digits n c hc
  exact decide_eq_true (by omega)
theorem at_strs {ss : List Str} {v : Int} (h0 : 0 ≤ v) (h1 : v < (ss.length : Int)) : ∃ s ∈ ss, atD (ss.map .str) v = some (.str s) := by
  obtain ⟨n, rfl⟩ := Int.eq_ofNat_of_zero_le h0
  have hn : n < ss.length := by omega
  refine ⟨ss[n], List.getElem_mem hn, x_at ?_⟩
  rw [List.getElem?_map, List.getElem?_eq_getElem hn]
  rfl
theorem str_n {n : Nat} (h : n < 5000) : strB [.int (n : Int)] = some (.val (.str (toString (n : Int) : String))) := by
  show (if (n : Int).natAbs.log2 < 1920 then _ else _) = _
  rw [if_pos]
  rw [Int.natAbs_natCast]
  by_cases z : n = 0
  · subst z; decide
  · exact Nat.lt_trans ((Nat.log2_lt z).mpr (show n < 2 ^ 13 by omega)) (by decide)
theorem ix_const {a : List Nat} (hz : a.length ≤ 1000) {v : Int} (h0 : 0 ≤ v) (h1 : v < (a.length : Int)) : ∃ c ∈ a, ixD (.str (S a)) (.int v) = some (.str (S [c])) := by
  obtain ⟨n, rfl⟩ := Int.eq_ofNat_of_zero_le h0
  have hn : n < a.length := by omega
  exact ⟨a[n], List.getElem_mem hn, ix_S (by rw [x_size]; omega) hn⟩
theorem lf_ch : ∀ c ∈ lets ++ figs, chB c = true := by decide
theorem l_ch : ∀ c ∈ lets, chB c = true := by decide
/-- letters drawn -/
theorem letters_go (n : Nat) : ∀ (lo : Int) (h : Hand) (S' : Store) (r : Nat) (a1 a2 a3 a4 : Option O), h.at S' r → ∃ (l : List Nat) (h' : Hand), l.length = n ∧ l.all chB = true ∧ h'.ok ∧
    compI (gNm 4) tYes (eIx (eC (.str (S (lets ++ figs)))) (eCall F__law_take (aCons (eSlot 0) (aCons (eC (.int 36)) (aNil))))) [some (.ptr r), a1, a2, a3, a4] (rngD lo n) S' = .ok (l.map fun c => .str (S [c])) (S'.set r (.lst h'.ds)) := by
  induction n with
  | zero =>
    intro lo h S' r a1 a2 a3 a4 a
    refine ⟨[], h, rfl, rfl, a.2, ?_⟩
    have e : S'.set r (.lst h.ds) = S' := by
      apply List.ext_getElem?
      intro i
      by_cases e : r = i
      · subst e
        rw [List.getElem?_set_self a.lt, a.1]
      · rw [List.getElem?_set_ne e]
    rw [e]
    rfl
  | succ n ih =>
    intro lo h S' r a1 a2 a3 a4 a
    obtain ⟨v1, h1, p1, q1, k1, e1⟩ := take_ok a (m := 36) (by decide) (by decide)
    obtain ⟨c, hc, ec⟩ := ix_const (a := lets ++ figs) (by decide) p1 (by simpa [lets, figs] using q1)
    obtain ⟨l, h', i1, i2, k, e⟩ := ih (lo + 1) h1 _ r a1 a2 a3 a4 (a.set k1)
    refine ⟨c :: l, h', by simp [i1], by rw [List.all_cons, lf_ch c hc, i2]; rfl, k, ?_⟩
    simp only [List.set_set] at e
    rw [x_rng, x_comp_cons]
    simp [e1, ec]
    rw [e]
    rfl
theorem strs_map (l : List Nat) : strsOf (l.map fun c => D.str (S [c])) = some ((l.map fun c => [c]).map S) := by
  induction l with
  | nil => rfl
  | cons c l ih => simp [strsOf, ih]
theorem joinL_nil : ∀ ys : List (List Nat), TL.joinL [] ys = ys.flatten
  | [] => rfl
  | [p] => by simp [TL.joinL]
  | p :: q :: r => by
    have h := joinL_nil (q :: r)
    show p ++ ([] ++ TL.joinL [] (q :: r)) = _
    rw [List.nil_append, h]
    rfl
theorem sum_le {ys : List Str} {k : Nat} (h : ∀ y ∈ ys, y.length ≤ k) : (ys.map (·.length)).sum ≤ ys.length * k := by
  induction ys with
  | nil => simp
  | cons y ys ih =>
    rw [List.map_cons, List.sum_cons, List.length_cons, Nat.succ_mul]
    have := h y (List.mem_cons_self ..)
    have := ih fun z hz => h z (List.mem_cons_of_mem _ hz)
    omega
theorem join_letters {l : List Nat} (hl : l.length ≤ 100000) : joinD (S []) (.lst (l.map fun c => D.str (S [c]))) = some (.val (.str (S l))) := by
  unfold joinD
  dsimp only
  rw [strs_map, Option.bind_some, if_pos, join_S, joinL_nil]
  · have e : (l.map fun c => [c]).flatten = l := by
      clear hl
      induction l with
      | nil => rfl
      | cons c l ih => rw [List.map_cons, List.flatten_cons, ih]; rfl
    rw [e]
  · have h := sum_le (ys := (l.map fun c => [c]).map S) (k := 1) (fun y hy => by
      obtain ⟨z, hz, rfl⟩ := List.mem_map.mp hy
      obtain ⟨c, _, rfl⟩ := List.mem_map.mp hz
      rw [S_len]
      simp)
    simp only [List.length_map, S_len] at h ⊢
    simp
    simp at h
    omega
end UI.LW
namespace UI.LW
open PySem SX
theorem Hand.at.take {h : Hand} {S' : Store} {r : Nat} (a : h.at S' r) (h' : Hand) : (S'.set r (.lst h'.ds)).take S'.length = S'.set r (.lst h'.ds) := by
  rw [List.take_of_length_le]
  simp
theorem W17 : ∀ s ∈ kwS, goodS 8 s := by
  have h : ∀ s ∈ kwS, s.cps.toList.all chB = true ∧ s.cps.toList.length ≤ 8 := by decide +kernel
  exact h
def nums7 : List Str := ["4095", "4096", "0", "00", "07", "100000", "999"]
theorem N7 : ∀ s ∈ nums7, goodS 8 s := by
  have h : ∀ s ∈ nums7, s.cps.toList.all chB = true ∧ s.cps.toList.length ≤ 8 := by decide +kernel
  exact h
def signs23 : List Str := ["{", "}", "(", ")", "[", "]", ",", ";", "=", "+", "-", "*", "&", "|", "^", "==", "<", "<<", ">>", "+=", "-=", "^=", "<=>"]
theorem S23 : ∀ s ∈ signs23, goodS 8 s := by
  have h : ∀ s ∈ signs23, s.cps.toList.all chB = true ∧ s.cps.toList.length ≤ 8 := by decide +kernel
  exact h
theorem ODD8 : Str.ofString "!~_Z:.>\t" = S [33, 126, 95, 90, 58, 46, 62, 9] := by decide +kernel
theorem odd_ch : ∀ c ∈ [33, 126, 95, 90, 58, 46, 62, 9], chB c = true := by decide
theorem good_mono {s : Str} {m n : Nat} (h : goodS m s) (l : m ≤ n) : goodS n s := ⟨h.1, Nat.le_trans h.2 l⟩
theorem piece_ok {h : Hand} {S' : Store} {r : Nat} (a : h.at S' r) : ∃ (s : Str) (h' : Hand), goodS 20 s ∧ h'.ok ∧ F__law_piece [.ptr r] S' = .ok (.val (.str s)) (S'.set r (.lst h'.ds)) := by
  obtain ⟨v, h1, p1, q1, k1, e1⟩ := take_ok a (m := 9) (by decide) (by decide)
  have a1 := a.set k1
  have tk := a.take
  have sz : ∀ n : Nat, n < 64 → n ≤ sizeLine := fun n h => by rw [x_size]; omega
  unfold F__law_piece
  rw [x_mkF]
  by_cases c0 : v = 0
  · obtain ⟨v2, h2, p2, q2, k2, e2⟩ := take_ok a1 (m := 17) (by decide) (by decide)
    obtain ⟨v3, h3, p3, q3, k3, e3⟩ := take_ok (a1.set k2) (m := 4) (by decide) (by decide)
    obtain ⟨v4, h4, p4, q4, k4, e4⟩ := take_ok ((a1.set k2).set k3) (m := 10) (by decide) (by decide)
    simp only [List.set_set] at e2 e3 e4
    obtain ⟨s, hs, es⟩ := at_strs (ss := kwS) p2 (by simpa [kwS] using q2)
    have es : atD [.str "fun", .str "let", .str "repeat", .str "if", .str "else", .str "give", .str "pick", .str "table", .str "routine", .str "from", .str "loop", .str "until", .str "fi", .str "local", .str "end", .str "call", .str "back"] v2 = some (.str s) := es
    have gs := W17 s hs
    have gl := good_len gs
    by_cases c3 : 0 < v3
    · have ad : binD .Add (.str s) (.str "") = some (.val (.str s)) := by
        rw [x_addS, E0, if_pos (by have e0 : (S []).length = 0 := S_len []; rw [e0, x_size]; omega)]
        have : s ++ S [] = s := by
          have := S_cat s.cps.toList []
          rw [S_tl, List.append_nil, S_tl] at this
          exact this
        rw [this]
      exact ⟨s, h3, good_mono gs (by decide), k3, by simp [-x_addS, c__law_piece, e1, c0, sz, e2, e3, c3, es, ad, tk]⟩
    · obtain ⟨n, rfl⟩ := Int.eq_ofNat_of_zero_le p4
      have gn := good_num (n := n) (k := 1) (by decide) (by omega)
      have sn := str_n (n := n) (by omega)
      generalize (toString (n : Int) : String) = z at *
      have ad : binD .Add (.str s) (.str z) = some (.val (.str (s ++ (z : Str)))) := by
        rw [x_addS, if_pos (by have := good_len gn; rw [x_size]; omega)]
      exact ⟨s ++ (z : Str), h4, good_cat gs gn (by decide), k4, by simp [-x_addS, c__law_piece, e1, c0, sz, e2, e3, e4, c3, es, sn, ad, tk]⟩
  by_cases c1 : v < 3
  · obtain ⟨v2, h2, p2, q2, k2, e2⟩ := take_ok a1 (m := 4) (by decide) (by decide)
    -- how many letters
    have hm : ∃ (n : Nat) (h3 : Hand), n ≤ 9 ∧ h3.ok ∧ (eIf (tCmp .Gt (eCall F__law_take (aCons (eSlot 0) (aCons (eC (.int 4)) (aNil)))) (eC (.int 0))) (eCall F__law_take (aCons (eSlot 0) (aCons (eC (.int 9)) (aNil)))) (eC (.int 7))) [some (.ptr r), some (.val (.int v)), none, none, none] (S'.set r (.lst h1.ds)) = .ok (.val (.int (n : Int))) (S'.set r (.lst h3.ds)) := by
      by_cases c2 : 0 < v2
      · obtain ⟨v3, h3, p3, q3, k3, e3⟩ := take_ok (a1.set k2) (m := 9) (by decide) (by decide)
        obtain ⟨n, rfl⟩ := Int.eq_ofNat_of_zero_le p3
        simp only [List.set_set] at e2 e3
        exact ⟨n, h3, by omega, k3, by simp [e2, c2, e3]⟩
      · simp only [List.set_set] at e2
        exact ⟨7, h2, by decide, k2, by simp [e2, c2]⟩
    obtain ⟨n, h3, hn, k3, em⟩ := hm
    have a3 : h3.at (S'.set r (.lst h3.ds)) r := a.set k3
    obtain ⟨l, h4, i1, i2, k4, e4⟩ := letters_go n 0 h3 _ r (some (.val (.int v))) none none none a3
    have a4 := a3.set k4
    obtain ⟨v5, h5, p5, q5, k5, e5⟩ := take_ok a4 (m := 26) (by decide) (by decide)
    simp only [List.set_set] at e4 e5
    obtain ⟨c, hc, ec⟩ := ix_const (a := lets) (by decide) p5 (by simpa [lets] using q5)
    have jl := join_letters (l := l) (by omega)
    have w3 : (rngD 0 n).length < sizeLine := by rw [rngD_length, x_size]; omega
    have w4 : -4611686018427387904 ≤ (n : Int) := by omega
    have w5 : (n : Int) < 4611686018427387904 := by omega
    have it : iRng1 (eIf (tCmp .Gt (eCall F__law_take (aCons (eSlot 0) (aCons (eC (.int 4)) (aNil)))) (eC (.int 0))) (eCall F__law_take (aCons (eSlot 0) (aCons (eC (.int 9)) (aNil)))) (eC (.int 7))) [some (.ptr r), some (.val (.int v)), none, none, none] (S'.set r (.lst h1.ds)) = .ok (rngD 0 n) (S'.set r (.lst h3.ds)) := by
      rw [x_iRng1, em]
      simp [w4, w5]
    have ad : binD .Add (.str (S [c])) (.str (S l)) = some (.val (.str (S (c :: l)))) := by
      rw [x_addS, if_pos (by rw [S_len, S_len, x_size]; simp; omega), S_cat]
      rfl
    refine ⟨S (c :: l), h5, good_S (by rw [List.all_cons, l_ch c hc, i2]; rfl) (by rw [List.length_cons]; omega), k5, ?_⟩
    generalize hG : (l.map fun c => D.str (S [c])) = G at *
    generalize hT : S (c :: l) = T at *
    unfold c__law_piece
    rw [E0, LF, LET]
    simp [-x_iRng1, -x_addS, e1, c0, c1, it, w3, e4, jl, e5, ec, ad, tk]
  by_cases c2 : v < 5
  · obtain ⟨v2, h2, p2, q2, k2, e2⟩ := take_ok a1 (m := 2) (by decide) (by decide)
    obtain ⟨v3, h3, p3, q3, k3, e3⟩ := take_ok (a1.set k2) (m := 10) (by decide) (by decide)
    obtain ⟨v4, h4, p4, q4, k4, e4⟩ := take_ok (a1.set k2) (m := 4200) (by decide) (by decide)
    simp only [List.set_set] at e2 e3 e4
    by_cases c3 : v2 = 0
    · obtain ⟨n, rfl⟩ := Int.eq_ofNat_of_zero_le p3
      have gn := good_num (n := n) (k := 4) (by decide) (by omega)
      have sn := str_n (n := n) (by omega)
      generalize (toString (n : Int) : String) = z at *
      exact ⟨z, h3, good_mono gn (by decide), k3, by simp [c__law_piece, e1, c0, c1, c2, e2, c3, e3, sn, tk]⟩
    · obtain ⟨n, rfl⟩ := Int.eq_ofNat_of_zero_le p4
      have gn := good_num (n := n) (k := 4) (by decide) (by omega)
      have sn := str_n (n := n) (by omega)
      generalize (toString (n : Int) : String) = z at *
      exact ⟨z, h4, good_mono gn (by decide), k4, by simp [c__law_piece, e1, c0, c1, c2, e2, c3, e4, sn, tk]⟩
  by_cases c5 : v = 5
  · obtain ⟨v2, h2, p2, q2, k2, e2⟩ := take_ok a1 (m := 7) (by decide) (by decide)
    simp only [List.set_set] at e2
    obtain ⟨s, hs, es⟩ := at_strs (ss := nums7) p2 (by simpa [nums7] using q2)
    have es : atD [.str "4095", .str "4096", .str "0", .str "00", .str "07", .str "100000", .str "999"] v2 = some (.str s) := es
    exact ⟨s, h2, good_mono (N7 s hs) (by decide), k2, by simp [c__law_piece, e1, c0, c1, c2, c5, sz, e2, es, tk]⟩
  by_cases c6 : v = 6
  · obtain ⟨v2, h2, p2, q2, k2, e2⟩ := take_ok a1 (m := 10) (by decide) (by decide)
    simp only [List.set_set] at e2
    by_cases c7 : v2 = 0
    · obtain ⟨v3, h3, p3, q3, k3, e3⟩ := take_ok (a.set k2) (m := 8) (by decide) (by decide)
      simp only [List.set_set] at e3
      obtain ⟨c, hc, ec⟩ := ix_const (a := [33, 126, 95, 90, 58, 46, 62, 9]) (by decide) p3 (by simpa using q3)
      refine ⟨S [c], h3, good_S (by rw [List.all_cons, odd_ch c hc]; rfl) (by simp), k3, ?_⟩
      unfold c__law_piece
      rw [ODD8]
      generalize ([33, 126, 95, 90, 58, 46, 62, 9] : List Nat) = L8 at *
      simp [e1, c0, c1, c2, c5, c6, e2, c7, e3, ec, tk]
    · obtain ⟨v3, h3, p3, q3, k3, e3⟩ := take_ok (a.set k2) (m := 23) (by decide) (by decide)
      simp only [List.set_set] at e3
      obtain ⟨s, hs, es⟩ := at_strs (ss := signs23) p3 (by simpa [signs23] using q3)
      have es : atD [.str "{", .str "}", .str "(", .str ")", .str "[", .str "]", .str ",", .str ";", .str "=", .str "+", .str "-", .str "*", .str "&", .str "|", .str "^", .str "==", .str "<", .str "<<", .str ">>", .str "+=", .str "-=", .str "^=", .str "<=>"] v3 = some (.str s) := es
      exact ⟨s, h3, good_mono (S23 s hs) (by decide), k3, by simp [c__law_piece, e1, c0, c1, c2, c5, c6, e2, c7, sz, e3, es, tk]⟩
  · obtain ⟨v3, h3, p3, q3, k3, e3⟩ := take_ok a1 (m := 23) (by decide) (by decide)
    simp only [List.set_set] at e3
    obtain ⟨s, hs, es⟩ := at_strs (ss := signs23) p3 (by simpa [signs23] using q3)
    have es : atD [.str "{", .str "}", .str "(", .str ")", .str "[", .str "]", .str ",", .str ";", .str "=", .str "+", .str "-", .str "*", .str "&", .str "|", .str "^", .str "==", .str "<", .str "<<", .str ">>", .str "+=", .str "-=", .str "^=", .str "<=>"] v3 = some (.str s) := es
    exact ⟨s, h3, good_mono (S23 s hs) (by decide), k3, by simp [c__law_piece, e1, c0, c1, c2, c5, c6, sz, e3, es, tk]⟩
end UI.LW
namespace UI.LW
open PySem SX
theorem at0 {h : Hand} (k : h.ok) : h.at [.lst h.ds] 0 := ⟨rfl, k⟩
theorem set0 (h h' : Hand) : ([Cl.lst h.ds] : Store).set 0 (.lst h'.ds) = [.lst h'.ds] := rfl
section
variable (a0 a2 a3 a4 a5 a6 a7 a8 a9 a10 a11 a12 a13 a14 a15 : Option O)
theorem pieces_go (n : Nat) : ∀ (lo : Int) (h : Hand), h.ok → ∃ (ss : List Str) (h' : Hand), ss.length = n ∧ (∀ s ∈ ss, goodS 20 s) ∧ h'.ok ∧
    compI (gNm 15) tYes (eCall F__law_piece (aCons (eSlot 1) (aNil))) [a0, some (.ptr 0), a2, a3, a4, a5, a6, a7, a8, a9, a10, a11, a12, a13, a14, a15] (rngD lo n) [.lst h.ds] = .ok (ss.map .str) [.lst h'.ds] := by
  induction n with
  | zero => exact fun lo h k => ⟨[], h, rfl, fun s hs => by simp at hs, k, rfl⟩
  | succ n ih =>
    intro lo h k
    obtain ⟨s, h1, g1, k1, e1⟩ := piece_ok (at0 k)
    rw [set0] at e1
    obtain ⟨ss, h', i1, i2, i3, e⟩ := ih (lo + 1) h1 k1
    refine ⟨s :: ss, h', by simp [i1], fun z hz => ?_, i3, ?_⟩
    · rcases List.mem_cons.mp hz with q | q
      · rw [q]; exact g1
      · exact i2 z q
    · rw [x_rng, x_comp_cons]
      simp [e1]
      rw [e]
      rfl
theorem BR : Str.ofString "([{" = S [40, 91, 123] := by decide +kernel
theorem br_ch : ∀ c ∈ [40, 91, 123], chB c = true := by decide
theorem brack_go (n : Nat) : ∀ (lo : Int) (h : Hand), h.ok → ∃ (ss : List Str) (h' : Hand), ss.length = n ∧ (∀ s ∈ ss, goodS 20 s) ∧ h'.ok ∧
    compI (gNm 15) tYes (eIx (eC (.str "([{")) (eCall F__law_take (aCons (eSlot 1) (aCons (eC (.int 3)) (aNil))))) [a0, some (.ptr 0), a2, a3, a4, a5, a6, a7, a8, a9, a10, a11, a12, a13, a14, a15] (rngD lo n) [.lst h.ds] = .ok (ss.map .str) [.lst h'.ds] := by
  induction n with
  | zero => exact fun lo h k => ⟨[], h, rfl, fun s hs => by simp at hs, k, rfl⟩
  | succ n ih =>
    intro lo h k
    obtain ⟨v, h1, p1, q1, k1, e1⟩ := take_ok (at0 k) (m := 3) (by decide) (by decide)
    rw [set0] at e1
    obtain ⟨c, hc, ec⟩ := ix_const (a := [40, 91, 123]) (by decide) p1 (by simpa using q1)
    rw [← BR] at ec
    obtain ⟨ss, h', i1, i2, i3, e⟩ := ih (lo + 1) h1 k1
    refine ⟨S [c] :: ss, h', by simp [i1], fun z hz => ?_, i3, ?_⟩
    · rcases List.mem_cons.mp hz with q | q
      · rw [q]; exact good_S (by rw [List.all_cons, br_ch c hc]; rfl) (by simp)
      · exact i2 z q
    · rw [x_rng, x_comp_cons]
      simp [e1, ec]
      rw [e]
      rfl
/-- a text's signs are below 128 -/
def low (n : Nat) (s : Str) : Prop := (∀ c ∈ s.cps.toList, c < 128) ∧ s.cps.toList.length ≤ n
theorem low_S {a : List Nat} {n : Nat} (h : ∀ c ∈ a, c < 128) (hl : a.length ≤ n) : low n (S a) := ⟨h, hl⟩
theorem low_cat {x y : Str} {m n k : Nat} (hx : low m x) (hy : low n y) (hk : m + n ≤ k) : low k (x ++ y) := by
  rw [← S_tl x, ← S_tl y, S_cat]
  refine low_S (fun c hc => ?_) (by rw [List.length_append]; have := hx.2; have := hy.2; omega)
  rcases List.mem_append.mp hc with z | z
  · exact hx.1 c z
  · exact hy.1 c z
theorem good_low {n : Nat} {s : Str} (h : goodS n s) : low n s := ⟨fun c hc => by
  have := List.all_eq_true.mp h.1 c hc
  unfold chB at this
  exact (of_decide_eq_true this).1, h.2⟩
theorem low_len {n : Nat} {s : Str} (h : low n s) : s.length ≤ n := by
  rw [← S_tl s, S_len]
  exact h.2
def blanks : List Str := ["", " ", " ", "\n"]
theorem blank_low : ∀ s ∈ blanks, low 1 s := by
  have h : ∀ s ∈ blanks, (∀ c ∈ s.cps.toList, c < 128) ∧ s.cps.toList.length ≤ 1 := by decide +kernel
  exact h
theorem text_go (ss : List Str) : ∀ (h : Hand), h.ok → (∀ s ∈ ss, goodS 20 s) → ∃ (ts : List Str) (h' : Hand), ts.length = ss.length ∧ (∀ s ∈ ts, low 21 s) ∧ h'.ok ∧
    compI (gNm 11) tYes (eBin .Add (eSlot 11) (eIx (eLst (lCons (eC (.str "")) (lCons (eC (.str " ")) (lCons (eC (.str " ")) (lCons (eC (.str "\n")) (lNil)))))) (eCall F__law_take (aCons (eSlot 1) (aCons (eC (.int 4)) (aNil)))))) [a0, some (.ptr 0), a2, a3, a4, a5, a6, a7, a8, a9, a10, a11, a12, a13, a14, a15] (ss.map .str) [.lst h.ds] = .ok (ts.map .str) [.lst h'.ds] := by
  induction ss with
  | nil => exact fun h k _ => ⟨[], h, rfl, fun s hs => by simp at hs, k, rfl⟩
  | cons s ss ih =>
    intro h k hs
    obtain ⟨v, h1, p1, q1, k1, e1⟩ := take_ok (at0 k) (m := 4) (by decide) (by decide)
    rw [set0] at e1
    obtain ⟨b, hb, eb⟩ := at_strs (ss := blanks) p1 (by simpa [blanks] using q1)
    have eb : atD [.str "", .str " ", .str " ", .str "\n"] v = some (.str b) := eb
    have gs := good_low (hs s (List.mem_cons_self ..))
    have gb := blank_low b hb
    have ad : binD .Add (.str s) (.str b) = some (.val (.str (s ++ b))) := by
      rw [x_addS, if_pos (by have := low_len gs; have := low_len gb; rw [x_size]; omega)]
    have l4 : 4 ≤ sizeLine := by rw [x_size]; decide
    obtain ⟨ts, h', i1, i2, i3, e⟩ := ih h1 k1 fun z hz => hs z (List.mem_cons_of_mem _ hz)
    refine ⟨(s ++ b) :: ts, h', by simp [i1], fun z hz => ?_, i3, ?_⟩
    · rcases List.mem_cons.mp hz with q | q
      · rw [q]; exact low_cat gs gb (by decide)
      · exact i2 z q
    · rw [List.map_cons, x_comp_cons]
      simp [-x_addS, e1, eb, ad, l4]
      rw [e]
      rfl
end
theorem strs_all (ss : List Str) : strsOf (ss.map .str) = some ss := by
  induction ss with
  | nil => rfl
  | cons s ss ih => simp [strsOf, ih]
theorem flat_len : ∀ {ts : List Str}, (∀ s ∈ ts, low 21 s) → (ts.map fun s => s.cps.toList).flatten.length ≤ 21 * ts.length
  | [], _ => by simp
  | s :: ts, h => by
    have h1 := (h s (List.mem_cons_self ..)).2
    have h2 := flat_len fun z hz => h z (List.mem_cons_of_mem _ hz)
    rw [List.map_cons, List.flatten_cons, List.length_append, List.length_cons]
    omega
theorem join_low {ts : List Str} (h : ∀ s ∈ ts, low 21 s) (hl : ts.length ≤ 1000) : ∃ x, low (21 * ts.length) x ∧ joinD "" (.lst (ts.map .str)) = some (.val (.str x)) := by
  have j : joinD "" (.lst (ts.map .str)) = some (.val (.str (Txt.join "" ts))) := by
    unfold joinD
    dsimp only
    rw [strs_all, Option.bind_some, if_pos]
    have h2 := sum_le (ys := ts) (k := 21) fun y hy => low_len (h y hy)
    have e0 : (Str.ofString "").length = 0 := by decide +kernel
    rw [e0]
    omega
  refine ⟨_, ?_, j⟩
  have e1 : ts = (ts.map fun s => s.cps.toList).map S := by
    rw [List.map_map]
    conv => lhs; rw [← List.map_id ts]
    apply List.map_congr_left
    intro s _
    exact (S_tl s).symm
  have e2 : Txt.join "" ts = S (ts.map fun s => s.cps.toList).flatten := by
    conv => lhs; rw [e1]
    rw [E0, join_S, joinL_nil]
  rw [e2]
  refine low_S (fun c hc => ?_) (flat_len h)
  obtain ⟨l, hl', hc⟩ := List.mem_flatten.mp hc
  obtain ⟨s, hs, rfl⟩ := List.mem_map.mp hl'
  exact (h s hs).1 c hc
end UI.LW
namespace UI.LW
open PySem SX
theorem sz0 (n : Nat) (h : n < 64) : n ≤ sizeLine := by rw [x_size]; omega
theorem at_end (S : Store) (c : Cl) : (S ++ [c])[S.length]? = some c := by simp
theorem set_end (S : Store) (c d : Cl) : (S ++ [c]).set S.length d = S ++ [d] := by simp
theorem hand_go (ns : List Int) : ∀ (acc : List Int) (p x : Option O) (t : Int) (S : Store), acc.length + ns.length ≤ 10000 → (∀ z ∈ acc, 0 ≤ z) → ∃ (acc' : List Int) (t' : Int) (x' : Option O), (∀ z ∈ acc', 0 ≤ z) ∧
    forI (gNm 3) (sSeq (sSet 1 (eBin .Mod (eCallB intB (aCons (eBin .Add (eBin .Mult (eSlot 1) (eC (.int 2017))) (eCallB intB (aCons (eSlot 3) (aNil)))) (aNil))) (eC (.int 2147483543)))) (sApp 2 (eCallB absB (aCons (eCallB intB (aCons (eSlot 3) (aNil))) (aNil))))) (ns.map .int) [p, some (.val (.int t)), some (.ptr S.length), x] (S ++ [.lst (acc.map .int)]) = .nx [p, some (.val (.int t')), some (.ptr S.length), x'] (S ++ [.lst (acc'.map .int)]) := by
  have m1 : ∀ i : Int, binD .Mult (.int i) (.int 2017) = some (.val (.int (i * 2017))) := fun i => x_mul (.inr (.inl (by decide)))
  have r1 : ∀ i : Int, binD .Mod (.int i) (.int 2147483543) = some (.val (.int (i % 2147483543))) := fun i => x_mod (by decide)
  induction ns with
  | nil => exact fun acc p x t S _ h => ⟨acc, t, x, h, rfl⟩
  | cons n ns ih =>
    intro acc p x t S hl h
    rw [List.length_cons] at hl
    obtain ⟨acc', t', x', i, j⟩ := ih (acc ++ [if n < 0 then -n else n]) p (some (.val (.int n))) ((t * 2017 + n) % 2147483543) S (by rw [List.length_append]; simp; omega) fun z hz => by
      rcases List.mem_append.mp hz with k | k
      · exact h z k
      · rw [List.mem_singleton.mp k]; split <;> omega
    refine ⟨acc', t', x', i, ?_⟩
    have l1 : (acc.map D.int).length < sizeLine := by rw [List.length_map, x_size]; omega
    rw [List.map_cons, x_for_cons]
    simp only [x_gNm, List.length_cons, List.length_nil, Nat.reduceAdd, Nat.reduceLT, if_true, List.set_cons_succ, List.set_cons_zero, x_opt_some, x_sSeq, x_sSet, x_bin, x_callB, x_aCons, x_aNil, x_slot, x_C, List.getElem?_cons_succ, List.getElem?_cons_zero, x_bind_ok, x_look2, x_look_val, Option.bind_some, m1, r1, x_of_some, x_norm_val, x_lookAll_cons, x_lookAll_nil, Option.map_some, x_int_int, x_add, x_lift_ok, x_seq_nx, x_sApp, x_ownAt, at_end, Option.isSome_some, x_abs, x_force_val, l1, set_end, x_loop_nx]
    have e : acc.map D.int ++ [.int (if n < 0 then -n else n)] = (acc ++ [if n < 0 then -n else n]).map D.int := by simp
    rw [e]
    exact j
theorem hand_ok (ns : List Int) (hl : ns.length ≤ 63) (S : Store) : ∃ h : Hand, h.ok ∧ F__law_hand [.val (.wls (ns.map .int))] S = .ok (.fr h.ds) S := by
  obtain ⟨acc, t, x, i, j⟩ := hand_go ns [] (some (.val (.wls (ns.map .int)))) none (ns.length + 59) S (by simp; omega) (fun z hz => by simp at hz)
  refine ⟨⟨acc, 0, 0, t⟩, i, ?_⟩
  have j' := j
  rw [show (([] : List Int).map D.int) = [] from rfl] at j'
  unfold F__law_hand
  rw [x_mkF]
  simp [c__law_hand, sz0, j', Hand.ds]
@[simp] theorem lwhole (i : Int) (S : Store) : F__law_whole [.val (.int i)] S = .ok (.val (.bl true)) S := by
  unfold F__law_whole
  rw [x_mkF]
  simp [c__law_whole]
theorem tok_py {t : D} (h : Tok t) : ∃ p, toPy t = some p ∧ PyData.canLay0 p = true ∧ PyData.depth p = 1 ∧ PyData.eqv p p = true := by
  cases h with
  | num i q => exact ⟨.tuple [.str "number", .int i, .int q], rfl, by simp [PyData.canLay0, PyData.canLayAll0]; decide +kernel, by simp [PyData.depth, PyData.depthAll], by simp [PyData.eqv, PyData.eqvAll]⟩
  | txt k s q hk hs hn => exact ⟨.tuple [.str k, .str s, .int q], rfl, by simp [PyData.canLay0, PyData.canLayAll0, hk, hs], by simp [PyData.depth, PyData.depthAll], by simp [PyData.eqv, PyData.eqvAll]⟩
theorem toks_py {ts : List D} (h : ∀ t ∈ ts, Tok t) : ∃ ps, toPyL ts = some ps ∧ PyData.canLayAll0 ps = true ∧ PyData.depthAll ps ≤ 1 ∧ PyData.eqvAll ps ps = true := by
  induction ts with
  | nil => exact ⟨[], rfl, by simp [PyData.canLayAll0], by simp [PyData.depthAll], by simp [PyData.eqvAll]⟩
  | cons t ts ih =>
    obtain ⟨p, e1, e2, e3, e4⟩ := tok_py (h t (List.mem_cons_self ..))
    obtain ⟨ps, f1, f2, f3, f4⟩ := ih fun z hz => h z (List.mem_cons_of_mem _ hz)
    exact ⟨p :: ps, by simp [toPyL, e1, f1], by simp [PyData.canLayAll0, e2, f2], by simp [PyData.depthAll, e3]; omega, by simp [PyData.eqvAll, e4, f4]⟩
theorem toks_eq {ts : List D} (h : ∀ t ∈ ts, Tok t) : eqD (.lst ts) (.lst ts) = some true := by
  obtain ⟨ps, f1, f2, f3, f4⟩ := toks_py h
  have d : PyData.depthAll ps + 1 ≤ 64 := by omega
  simp [eqD, toPy, f1, SeqAt.shaped, PyData.canLay0, f2, PyData.depth, d, PyData.eqv, f4]
theorem nU2 : eqD (.str "number") (.str "number") = some true := by rw [x_eqS (by decide +kernel) (by decide +kernel)]; decide +kernel
theorem nN2 : eqD (.str "name") (.str "name") = some true := by rw [x_eqS (by decide +kernel) (by decide +kernel)]; decide +kernel
section
variable (a0 a1 a2 a3 a4 a5 a6 a7 a8 a9 a12 a13 a14 a15 : Option O)
theorem loop1 (ts : List D) (h : ∀ t ∈ ts, Tok t) (St : Store) (x11 : Option O) : ∀ x : Option O, ∃ x', forI (gNm 10) b_law_1 ts [a0, a1, a2, a3, a4, a5, a6, a7, a8, a9, x, x11, a12, a13, a14, a15] St = .nx [a0, a1, a2, a3, a4, a5, a6, a7, a8, a9, x', x11, a12, a13, a14, a15] St := by
  induction ts with
  | nil => exact fun x => ⟨x, rfl⟩
  | cons t ts ih =>
    intro x
    obtain ⟨x', e⟩ := ih (fun z hz => h z (List.mem_cons_of_mem _ hz)) (some (.val t))
    refine ⟨x', ?_⟩
    have eb : b_law_1 [a0, a1, a2, a3, a4, a5, a6, a7, a8, a9, some (.val t), x11, a12, a13, a14, a15] St = .nx [a0, a1, a2, a3, a4, a5, a6, a7, a8, a9, some (.val t), x11, a12, a13, a14, a15] St := by
      have ht := h t (List.mem_cons_self ..)
      unfold b_law_1
      cases ht with
      | num i q => simp [nU2]
      | txt k s q hk hs hn => simp [hn]
    rw [x_for_cons]
    simp only [x_gNm, List.length_cons, List.length_nil, Nat.reduceAdd, Nat.reduceLT, if_true, List.set_cons_succ, List.set_cons_zero, x_opt_some, eb, x_loop_nx, e]
/-- one piece: is_name says what its tokens say -/
theorem body2 (x10 : Option O) {s : Str} (hs : goodS 20 s) (St : Store) : ∃ a12' a13' a14', b_law_2 [a0, a1, a2, a3, a4, a5, a6, a7, a8, a9, x10, some (.val (.str s)), a12, a13, a14, a15] St = .nx [a0, a1, a2, a3, a4, a5, a6, a7, a8, a9, x10, some (.val (.str s)), a12', a13', a14', a15] St := by
  obtain ⟨hc, hl⟩ := hs
  rw [← S_tl s]
  generalize s.cps.toList = l at *
  have hch : ∀ c ∈ l, c < 128 ∧ c ≠ 32 ∧ c ≠ 10 := fun c h => by
    have := List.all_eq_true.mp hc c h
    unfold chB at this
    exact of_decide_eq_true this
  have hb : ∀ c ∈ l, c ∉ [32, 10] := fun c h => by
    have := hch c h
    simp only [List.mem_cons, List.not_mem_nil, or_false, not_or]
    exact ⟨this.2.1, this.2.2⟩
  obtain ⟨f, ts, htk, htl, hf⟩ := both (a := l) (by omega) (fun c h => (hch c h).1) 3000 St
  have nm1 := is_name_ok (l := l) (by omega) St
  have ebl : ∀ b : Bool, eqD (.bl b) (.bl b) = some true := by
    have : eqD (.bl true) (.bl true) = some true ∧ eqD (.bl false) (.bl false) = some true := by decide +kernel
    intro b; cases b
    · exact this.2
    · exact this.1
  cases f with
  | some q =>
    obtain ⟨i, w⟩ := q
    obtain ⟨hB, hw, h1, h2⟩ := hf
    have nf : nm l = false := by
      rcases hB with z | z
      · omega
      · exact lexB_no hb z
    rw [nf] at nm1
    refine ⟨some (.val (.lst [])), some (.val (.bl false)), some (.val (.bl false)), ?_⟩
    unfold b_law_2
    simp [h2, nm1, ebl]
  | none =>
    obtain ⟨⟨more, e1, e2⟩, h1, h2⟩ := hf
    obtain ⟨d1, d2⟩ := lex_due hb e2
    refine ⟨some (.val (.lst ts)), some (.val (.bl (nm l))), some (.val (.bl (nm l))), ?_⟩
    unfold b_law_2
    match more, e1, d1, d2 with
    | [], e1, d1, d2 =>
      have nf := d2 (by decide)
      rw [nf] at nm1 ⊢
      have tl : ts.length = 1 := by rw [e1]; rfl
      simp [h2, nm1, ebl, tl]
    | [t], e1, d1, d2 =>
      obtain ⟨k, v, w, et, ek⟩ := d1 t rfl
      have tl : ts.length = 2 := by rw [e1]; rfl
      have t0 : atD ts 0 = some t := by rw [e1]; exact x_at0
      subst et
      cases hn : nm l <;> rw [hn] at nm1 ek <;> simp [h2, nm1, ebl, tl, t0, ek]
    | t :: t2 :: r, e1, d1, d2 =>
      have nf := d2 (by simp)
      rw [nf] at nm1 ⊢
      have tl : ¬ (ts.length : Int) = 2 := by rw [e1]; simp; omega
      have tl2 : ¬ ts.length = 2 := by omega
      simp [h2, nm1, ebl, tl, tl2]
end
end UI.LW
namespace UI.LW
open PySem SX
theorem loop2 (a0 a1 a2 a3 a4 a5 a6 a7 a8 a9 a10 a15 : Option O) (ss : List Str) (h : ∀ s ∈ ss, goodS 20 s) (St : Store) : ∀ x y z u : Option O, ∃ x' y' z' u', forI (gNm 11) b_law_2 (ss.map .str) [a0, a1, a2, a3, a4, a5, a6, a7, a8, a9, a10, x, y, z, u, a15] St = .nx [a0, a1, a2, a3, a4, a5, a6, a7, a8, a9, a10, x', y', z', u', a15] St := by
  induction ss with
  | nil => exact fun x y z u => ⟨x, y, z, u, rfl⟩
  | cons s ss ih =>
    intro x y z u
    obtain ⟨b12, b13, b14, eb⟩ := body2 a0 a1 a2 a3 a4 a5 a6 a7 a8 a9 y z u a15 a10 (h s (List.mem_cons_self ..)) St
    obtain ⟨x', y', z', u', e⟩ := ih (fun z hz => h z (List.mem_cons_of_mem _ hz)) (some (.val (.str s))) b12 b13 b14
    refine ⟨x', y', z', u', ?_⟩
    rw [List.map_cons, x_for_cons]
    simp only [x_gNm, List.length_cons, List.length_nil, Nat.reduceAdd, Nat.reduceLT, if_true, List.set_cons_succ, List.set_cons_zero, x_opt_some, eb, x_loop_nx, e]
/-- the pieces -/
theorem st1 (a0 : Option O) {h : Hand} (k : h.ok) : ∃ (ss : List Str) (h' : Hand), ss.length ≤ 24 ∧ (∀ s ∈ ss, goodS 20 s) ∧ h'.ok ∧ sSet 2 (eComp [15] (gNm 15) (iRng1 (eCall F__law_take (aCons (eSlot 1) (aCons (eC (.int 25)) (aNil))))) (tYes) (eCall F__law_piece (aCons (eSlot 1) (aNil)))) [a0, some (.ptr 0), none, none, none, none, none, none, none, none, none, none, none, none, none, none] [.lst h.ds] =
    .nx [a0, some (.ptr 0), some (.val (.lst (ss.map .str))), none, none, none, none, none, none, none, none, none, none, none, none, none] [.lst h'.ds] := by
  obtain ⟨v, h1, p1, q1, k1, e1⟩ := take_ok (at0 k) (m := 25) (by decide) (by decide)
  rw [set0] at e1
  obtain ⟨n, rfl⟩ := Int.eq_ofNat_of_zero_le p1
  obtain ⟨ss, h', i1, i2, i3, e⟩ := pieces_go a0 none none none none none none none none none none none none none none n 0 h1 k1
  have w3 : (rngD 0 n).length < sizeLine := by rw [rngD_length, x_size]; omega
  have w4 : -4611686018427387904 ≤ (n : Int) := by omega
  have w5 : (n : Int) < 4611686018427387904 := by omega
  exact ⟨ss, h', by omega, i2, i3, by simp [e1, w3, w4, w5, e]⟩
theorem st2 (a0 : Option O) {h : Hand} (k : h.ok) {ss : List Str} (hl : ss.length ≤ 24) (hs : ∀ s ∈ ss, goodS 20 s) : ∃ (ss' : List Str) (h' : Hand), ss'.length ≤ 60 ∧ (∀ s ∈ ss', goodS 20 s) ∧ h'.ok ∧ sIf (tCmp .Eq (eCall F__law_take (aCons (eSlot 1) (aCons (eC (.int 4)) (aNil)))) (eC (.int 0))) (sSet 2 (eBin .Add (eBin .Add (eSlot 2) (eComp [15] (gNm 15) (iRng1 (eBin .Add (eC (.int 15)) (eCall F__law_take (aCons (eSlot 1) (aCons (eC (.int 10)) (aNil)))))) (tYes) (eIx (eC (.str "([{")) (eCall F__law_take (aCons (eSlot 1) (aCons (eC (.int 3)) (aNil))))))) (eLst (lCons (eCall F__law_piece (aCons (eSlot 1) (aNil))) (lNil))))) (sNext)
      [a0, some (.ptr 0), some (.val (.lst (ss.map .str))), none, none, none, none, none, none, none, none, none, none, none, none, none] [.lst h.ds] =
    .nx [a0, some (.ptr 0), some (.val (.lst (ss'.map .str))), none, none, none, none, none, none, none, none, none, none, none, none, none] [.lst h'.ds] := by
  obtain ⟨v, h1, p1, q1, k1, e1⟩ := take_ok (at0 k) (m := 4) (by decide) (by decide)
  rw [set0] at e1
  by_cases c : v = 0
  · obtain ⟨v2, h2, p2, q2, k2, e2⟩ := take_ok (at0 k1) (m := 10) (by decide) (by decide)
    rw [set0] at e2
    obtain ⟨n, rfl⟩ := Int.eq_ofNat_of_zero_le p2
    have en : (15 : Int) + (n : Int) = ((15 + n : Nat) : Int) := by omega
    obtain ⟨bs, h3, j1, j2, j3, e3⟩ := brack_go a0 (some (.val (.lst (ss.map .str)))) none none none none none none none none none none none none none (15 + n) 0 h2 k2
    obtain ⟨s, h4, g4, k4, e4⟩ := piece_ok (at0 j3)
    rw [set0] at e4
    have w3 : (rngD 0 (15 + n)).length < sizeLine := by rw [rngD_length, x_size]; omega
    have w4 : -4611686018427387904 ≤ ((15 + n : Nat) : Int) := by omega
    have w5 : ((15 + n : Nat) : Int) < 4611686018427387904 := by omega
    have l1 : ss.length + bs.length ≤ sizeLine := by rw [x_size]; omega
    have l2 : ss.length + bs.length + 1 ≤ sizeLine := by rw [x_size]; omega
    have l3 : 1 ≤ sizeLine := by rw [x_size]; decide
    refine ⟨ss ++ bs ++ [s], h4, by simp; omega, fun z hz => ?_, k4, ?_⟩
    · rcases List.mem_append.mp hz with q | q
      · rcases List.mem_append.mp q with q | q
        · exact hs z q
        · exact j2 z q
      · rw [List.mem_singleton.mp q]; exact g4
    · generalize 15 + n = N at *
      simp [e1, c, e2, en, w3, w4, w5, e3, e4, l1, l2, l3]
  · exact ⟨ss, h1, by omega, hs, k1, by simp [e1, c]⟩
/-- the text -/
theorem st3 (a0 : Option O) {h : Hand} (k : h.ok) {ss : List Str} (hl : ss.length ≤ 60) (hs : ∀ s ∈ ss, goodS 20 s) : ∃ (x : Str) (h' : Hand), low 1300 x ∧ h'.ok ∧ sSet 3 (eM1 joinD (eC (.str "")) (eComp [11] (gNm 11) (iVal (eSlot 2)) (tYes) (eBin .Add (eSlot 11) (eIx (eLst (lCons (eC (.str "")) (lCons (eC (.str " ")) (lCons (eC (.str " ")) (lCons (eC (.str "\n")) (lNil)))))) (eCall F__law_take (aCons (eSlot 1) (aCons (eC (.int 4)) (aNil))))))))
      [a0, some (.ptr 0), some (.val (.lst (ss.map .str))), none, none, none, none, none, none, none, none, none, none, none, none, none] [.lst h.ds] =
    .nx [a0, some (.ptr 0), some (.val (.lst (ss.map .str))), some (.val (.str x)), none, none, none, none, none, none, none, none, none, none, none, none] [.lst h'.ds] := by
  obtain ⟨ts, h', i1, i2, i3, e⟩ := text_go a0 (some (.val (.lst (ss.map .str)))) none none none none none none none none none none none none none ss h k hs
  obtain ⟨x, lx, j⟩ := join_low i2 (by omega)
  have w3 : (ss.map D.str).length < sizeLine := by rw [List.length_map, x_size]; omega
  refine ⟨x, h', ⟨lx.1, by have := lx.2; omega⟩, i3, ?_⟩
  generalize hG : ss.map D.str = G at *
  generalize hT : ts.map D.str = T at *
  simp [w3, e, j]
end UI.LW
namespace UI.LW
open PySem SX
theorem ODD16 : Str.ofString " !#$'./:>?@A_`~\t" = S [32, 33, 35, 36, 39, 46, 47, 58, 62, 63, 64, 65, 95, 96, 126, 9] := by decide +kernel
theorem odd16_low : ∀ c ∈ [32, 33, 35, 36, 39, 46, 47, 58, 62, 63, 64, 65, 95, 96, 126, 9], c < 128 := by decide
theorem a_S : Str.ofString "a" = S [97] := by decide +kernel
theorem st4 (a0 a2 : Option O) {h : Hand} (k : h.ok) {x : Str} (hx : low 1300 x) : ∃ (y : Str) (h' : Hand), low 1302 y ∧ h'.ok ∧ sIf (tCmp .Eq (eCall F__law_take (aCons (eSlot 1) (aCons (eC (.int 6)) (aNil)))) (eC (.int 0))) (sSet 3 (eBin .Add (eBin .Add (eSlot 3) (eIx (eC (.str " !#$'./:>?@A_`~\t")) (eCall F__law_take (aCons (eSlot 1) (aCons (eC (.int 16)) (aNil)))))) (eC (.str "a")))) (sNext)
      [a0, some (.ptr 0), a2, some (.val (.str x)), none, none, none, none, none, none, none, none, none, none, none, none] [.lst h.ds] =
    .nx [a0, some (.ptr 0), a2, some (.val (.str y)), none, none, none, none, none, none, none, none, none, none, none, none] [.lst h'.ds] := by
  obtain ⟨v, h1, p1, q1, k1, e1⟩ := take_ok (at0 k) (m := 6) (by decide) (by decide)
  rw [set0] at e1
  by_cases c : v = 0
  · obtain ⟨v2, h2, p2, q2, k2, e2⟩ := take_ok (at0 k1) (m := 16) (by decide) (by decide)
    rw [set0] at e2
    obtain ⟨d, hd, ed⟩ := ix_const (a := [32, 33, 35, 36, 39, 46, 47, 58, 62, 63, 64, 65, 95, 96, 126, 9]) (by decide) p2 (by simpa using q2)
    rw [← ODD16] at ed
    have ld : low 1 (S [d]) := low_S (fun c h => by rw [List.mem_singleton.mp h]; exact odd16_low d hd) (by simp)
    have la : low 1 (S [97]) := low_S (by decide) (by decide)
    have l1 := low_cat hx ld (k := 1301) (by decide)
    have l2 := low_cat l1 la (k := 1302) (by decide)
    have b1 : binD .Add (.str x) (.str (S [d])) = some (.val (.str (x ++ S [d]))) := by
      rw [x_addS, if_pos (by have := low_len hx; have := low_len ld; rw [x_size]; omega)]
    have b2 : binD .Add (.str (x ++ S [d])) (.str "a") = some (.val (.str (x ++ S [d] ++ S [97]))) := by
      rw [x_addS, a_S, if_pos (by have := low_len l1; have := low_len la; rw [x_size]; omega)]
    exact ⟨_, h2, l2, k2, by simp [-x_addS, e1, c, e2, ed, b1, b2]⟩
  · exact ⟨x, h1, ⟨hx.1, by have := hx.2; omega⟩, k1, by simp [e1, c]⟩
theorem st5 (a0 a2 : Option O) {h : Hand} (k : h.ok) {x : Str} (hx : low 1302 x) : ∃ (m : Int) (h' : Hand), h'.ok ∧ sSet 4 (eIx (eLst (lCons (eC (.int 3000)) (lCons (eCallB lenB (aCons (eSlot 3) (aNil))) (lCons (eBin .Add (eCallB lenB (aCons (eSlot 3) (aNil))) (eC (.int 1))) (lCons (eCallB max2B (aCons (eC (.int 0)) (aCons (eBin .Sub (eCallB lenB (aCons (eSlot 3) (aNil))) (eC (.int 1))) (aNil)))) (lNil)))))) (eCall F__law_take (aCons (eSlot 1) (aCons (eC (.int 4)) (aNil)))))
      [a0, some (.ptr 0), a2, some (.val (.str x)), none, none, none, none, none, none, none, none, none, none, none, none] [.lst h.ds] =
    .nx [a0, some (.ptr 0), a2, some (.val (.str x)), some (.val (.int m)), none, none, none, none, none, none, none, none, none, none, none] [.lst h'.ds] := by
  obtain ⟨v, h1, p1, q1, k1, e1⟩ := take_ok (at0 k) (m := 4) (by decide) (by decide)
  rw [set0] at e1
  have ln := len_S (a := x.cps.toList) (by have := hx.2; rw [x_size]; omega)
  rw [S_tl] at ln
  have l4 : 4 ≤ sizeLine := by rw [x_size]; decide
  generalize (x.cps.toList.length : Int) = n at *
  have c : v = 0 ∨ v = 1 ∨ v = 2 ∨ v = 3 := by omega
  rcases c with rfl | rfl | rfl | rfl
  · exact ⟨3000, h1, k1, by simp [e1, ln, l4]⟩
  · exact ⟨n, h1, k1, by simp [e1, ln, l4]⟩
  · exact ⟨n + 1, h1, k1, by simp [e1, ln, l4]⟩
  · exact ⟨_, h1, k1, by simp [e1, ln, l4]; rfl⟩
theorem bb1 (a b : D) : ([("spot", a), ("what", b)] : List (Str × D)).lookup (Str.ofString "spot") = some a := by
  have h : ((Str.ofString "spot") == (Str.ofString "spot")) = true := by decide +kernel
  rw [List.lookup_cons, h]
theorem bb2 (a b : D) : ([("spot", a), ("what", b)] : List (Str × D)).lookup (Str.ofString "what") = some b := by
  have h : ((Str.ofString "what") == (Str.ofString "spot")) = false := by decide +kernel
  have h2 : ((Str.ofString "what") == (Str.ofString "what")) = true := by decide +kernel
  rw [List.lookup_cons, h]
  dsimp only
  rw [List.lookup_cons, h2]
theorem mBT : m_BadText "BadText" = some true := by decide +kernel
theorem eq_is (i : Int) (x : Str) (h : PyData.strOk x = true) : eqD (.tup [.int i, .str x]) (.tup [.int i, .str x]) = some true := by
  simp [eqD, toPy, toPyL, SeqAt.shaped, PyData.canLay0, PyData.canLayAll0, PyData.depth, PyData.depthAll, PyData.eqv, PyData.eqvAll, h]
/-- the end: words asked outright -/
theorem names4 (St : Store) : F_is_name [.val (.str "")] St = .ok (.val (.bl false)) St ∧ F_is_name [.val (.str " a")] St = .ok (.val (.bl false)) St ∧ F_is_name [.val (.int 7)] St = .ok (.val (.bl false)) St ∧ F_is_name [.val (.str "abcdefg8")] St = .ok (.val (.bl true)) St := by
  have e2 : Str.ofString " a" = S [32, 97] := by decide +kernel
  have e4 : Str.ofString "abcdefg8" = S [97, 98, 99, 100, 101, 102, 103, 56] := by decide +kernel
  have n1 := is_name_ok (l := []) (by decide) St
  have n2 := is_name_ok (l := [32, 97]) (by decide) St
  have n4 := is_name_ok (l := [97, 98, 99, 100, 101, 102, 103, 56]) (by decide) St
  rw [show nm [] = false by decide +kernel] at n1
  rw [show nm [32, 97] = false by decide +kernel] at n2
  rw [show nm [97, 98, 99, 100, 101, 102, 103, 56] = true by decide +kernel] at n4
  refine ⟨by rw [E0]; exact n1, by rw [e2]; exact n2, ?_, by rw [e4]; exact n4⟩
  unfold F_is_name
  rw [x_mkF]
  simp [c_is_name]
theorem cut_int (m : Int) (St : Store) : F_cut_text [.val (.int m), .val (.int m)] St = .exc (bt (-1) "text") St := by
  unfold F_cut_text bt
  rw [x_mkF]
  simp [c_cut_text]
end UI.LW
namespace UI.LW
open PySem SX
noncomputable def cTail : Sv := sSeq (sAsg (gTp [5, 6]) (eCall F__law_cut_told (aCons (eSlot 3) (aCons (eSlot 4) (aNil))))) (sSeq (sSet 7 (eC .non)) (sSeq (sSet 8 (eTup (lNil))) (sSeq (sTryAs m_BadText 9 (sSet 8 (eCall F_cut_text (aCons (eSlot 3) (aCons (eSlot 4) (aNil))))) (suiteOf ["BadText"] fun xc => sSet 7 (eTup (lCons (eXf 9 xc "spot") (lCons (eXf 9 xc "what") (lNil)))))) (sSeq (sIf (tOr (tCmp .NotEq (eSlot 7) (eSlot 5)) (tAnd (tCmp .Is (eSlot 5) (eC .non)) (tOr (tNot (tVal (eCallB isiB (aCons (eSlot 8) (aCons (eC (.ty "tuple")) (aNil)))))) (tCmp .NotEq (eCallB listB (aCons (eSlot 8) (aNil))) (eSlot 6))))) (sRet (eC (.bl false))) (sNext)) (sSeq (sFor (gNm 10) (iVal (eSlot 8)) (b_law_1)) (sSeq (sFor (gNm 11) (iVal (eSlot 2)) (b_law_2)) (sSeq (sIf (tOr (tVal (eCall F_is_name (aCons (eC (.str "")) (aNil)))) (tOr (tVal (eCall F_is_name (aCons (eC (.str " a")) (aNil)))) (tOr (tVal (eCall F_is_name (aCons (eC (.int 7)) (aNil)))) (tNot (tVal (eCall F_is_name (aCons (eC (.str "abcdefg8")) (aNil)))))))) (sRet (eC (.bl false))) (sNext)) (sSeq (sTryAs m_BadText 9 (sDrop (eCall F_cut_text (aCons (eSlot 4) (aCons (eSlot 4) (aNil))))) (suiteOf ["BadText"] fun xc => sRet (eB (tCmp .Eq (eTup (lCons (eXf 9 xc "spot") (lCons (eXf 9 xc "what") (lNil)))) (eTup (lCons (eUn .USub (eC (.int 1))) (lCons (eC (.str "text")) (lNil)))))))) (sRet (eC (.bl false)))))))))))
theorem tail_ok (a0 : Option O) {ss : List Str} (hs : ∀ s ∈ ss, goodS 20 s) {x : Str} (hx : low 1302 x) (m : Int) (St : Store) : ∃ S', cTail [a0, some (.ptr 0), some (.val (.lst (ss.map .str))), some (.val (.str x)), some (.val (.int m)), none, none, none, none, none, none, none, none, none, none, none] St = .ret (.val (.bl true)) S' := by
  obtain ⟨f, ts, htk, htl, hf⟩ := both (a := x.cps.toList) (by have := hx.2; omega) hx.1 m St
  rw [S_tl] at hf
  obtain ⟨n1, n2, n3, n4⟩ := names4 St
  have ci := cut_int m St
  have qq := eq_is (-1) "text" (by decide +kernel)
  have l2 : 2 ≤ sizeLine := by rw [x_size]; decide
  have l0 : 0 ≤ sizeLine := Nat.zero_le _
  have enn : eqD .non .non = some true := by decide +kernel
  cases f with
  | some q =>
    obtain ⟨i, w⟩ := q
    obtain ⟨_, hw, h1, h2⟩ := hf
    have qi := eq_is i w hw
    obtain ⟨x10, L1⟩ := loop1 a0 (some (.ptr 0)) (some (.val (.lst (ss.map .str)))) (some (.val (.str x))) (some (.val (.int m))) (some (.val (.tup [.int i, .str w]))) (some (.val (.lst []))) (some (.val (.tup [.int i, .str w]))) (some (.val (.tup []))) none none none none none [] (fun t h => by simp at h) St none none
    obtain ⟨y1, y2, y3, y4, L2⟩ := loop2 a0 (some (.ptr 0)) (some (.val (.lst (ss.map .str)))) (some (.val (.str x))) (some (.val (.int m))) (some (.val (.tup [.int i, .str w]))) (some (.val (.lst []))) (some (.val (.tup [.int i, .str w]))) (some (.val (.tup []))) none x10 none ss hs St none none none none
    refine ⟨St, ?_⟩
    unfold cTail
    unfold bt at h1 ci
    generalize hG : ss.map D.str = G at *
    simp [sAsg, h2, h1, l0, l2, suiteOf, mBT, bb1, bb2, qi, isNonD, L1, L2, n1, n2, n3, n4, ci, qq]
  | none =>
    obtain ⟨_, h1, h2⟩ := hf
    have qt := toks_eq htk
    obtain ⟨x10, L1⟩ := loop1 a0 (some (.ptr 0)) (some (.val (.lst (ss.map .str)))) (some (.val (.str x))) (some (.val (.int m))) (some (.val .non)) (some (.val (.lst ts))) (some (.val .non)) (some (.val (.tup ts))) none none none none none ts htk St none none
    obtain ⟨y1, y2, y3, y4, L2⟩ := loop2 a0 (some (.ptr 0)) (some (.val (.lst (ss.map .str)))) (some (.val (.str x))) (some (.val (.int m))) (some (.val .non)) (some (.val (.lst ts))) (some (.val .non)) (some (.val (.tup ts))) none x10 none ss hs St none none none none
    refine ⟨St, ?_⟩
    unfold cTail
    unfold bt at ci
    generalize hG : ss.map D.str = G at *
    simp [sAsg, h2, h1, l0, l2, suiteOf, mBT, bb1, bb2, enn, qt, isNonD, L1, L2, n1, n2, n3, n4, ci, qq]
theorem pure_law (ns : List Int) (hl : ns.length ≤ 63) (hb : ∀ z ∈ ns, Builtin.Int.intBits z ≤ 1048576) : ∃ S, F_law [.val (.wls (ns.map .int))] [] = .ok (.val (.bl true)) S := by
  obtain ⟨h, k, e1⟩ := hand_ok ns hl []
  obtain ⟨ss, h1, l1, g1, k1, s1⟩ := st1 (some (.val (.wls (ns.map .int)))) k
  obtain ⟨ss2, h2, l2, g2, k2, s2⟩ := st2 (some (.val (.wls (ns.map .int)))) k1 l1 g1
  obtain ⟨x, h3, lx, k3, s3⟩ := st3 (some (.val (.wls (ns.map .int)))) k2 l2 g2
  obtain ⟨y, h4, ly, k4, s4⟩ := st4 (some (.val (.wls (ns.map .int)))) (some (.val (.lst (ss2.map .str)))) k3 lx
  obtain ⟨m, h5, k5, s5⟩ := st5 (some (.val (.wls (ns.map .int)))) (some (.val (.lst (ss2.map .str)))) k4 ly
  obtain ⟨S4, e4⟩ := tail_ok (some (.val (.wls (ns.map .int)))) g2 ly m [.lst h5.ds]
  refine ⟨S4.take 0, ?_⟩
  have s0 : sSetM 1 (eCall F__law_hand (aCons (eSlot 0) (aNil))) [some (.val (.wls (ns.map .int))), none, none, none, none, none, none, none, none, none, none, none, none, none, none, none] [] = .nx [some (.val (.wls (ns.map .int))), some (.ptr 0), none, none, none, none, none, none, none, none, none, none, none, none, none, none] [.lst h.ds] := by simp [e1]
  unfold F_law
  rw [x_mkF]
  unfold c_law
  show endF 0 (sSeq _ _ [some (.val (.wls (ns.map .int))), none, none, none, none, none, none, none, none, none, none, none, none, none, none, none] []) = _
  rw [x_sSeq, s0, x_seq_nx, x_sSeq, s1, x_seq_nx, x_sSeq, s2, x_seq_nx, x_sSeq, s3, x_seq_nx, x_sSeq, s4, x_seq_nx, x_sSeq, s5, x_seq_nx]
  have e5 := congrArg (endF 0) e4
  exact e5
end UI.LW
namespace UI.LW
open PySem PySem.Spec PyProof.Rows L2
def loose0 : List Str := ["UndoError", "BadText", "LETTERS", "FIGURES", "DOUBLE_SIGNS", "SINGLE_SIGNS", "PLAIN_WORDS", "OTHER_WORDS", "MOST_SIGNS", "MOST_OPEN", "is_keyword", "is_name", "end_of_run", "word_token", "number_token", "sign_token", "open_behind", "cut_text", "_law_hand", "_law_mixed", "_law_take", "_law_whole", "_law_piece", "_law_end_of", "_law_sign_at", "_law_cut_told"]
abbrev loose : List Str := loose0
abbrev R : PySem.W.OpenRow := PySem.W.OpenLaw.row PySem.Challenge.rw_undocells_k01_tokens_of_any_text
abbrev hk : PySem.W.Hook := He.hookX 6 fa fn [] [] exB
def ob (s : PySem.W.SharedT) : He.AlX := He.obsX 6 fa fn [] [] exB (HandSHeadRun.getT s)
theorem ob_eq (s : PySem.W.SharedT) : ob s = hk.obs s.abs := He.obsX_eq (HandSHeadRun.getT_eq s)
theorem run (w : World) : HandSHeadRun.RunEq R (PySem.W.view R.prog [29]) hk ob 6000 loose w := by
  intro os
  kernel_rfl
theorem says {w : World} {h : Heap} {mg : Str → Option Value} {fa' : Addr} (Y : hk.says w h) (G : h.Ns mainGlobals mg) (hmg : mg ("law" : Str) = some (.ref fa')) :
    ∃ (K : PySem.W.Frag) (fd : FuncData), K.In h ∧ Fs K mg ∧ (∀ (s : Shared) (v : Value), BindsTo s fd ⟨[v], []⟩ [("_law_script", v)]) ∧ ∀ (P : Program) (base : Heap), FnOk P w K mg base (L2.CX P w) 5 fa' fd ["_law_script"] (spF K F_law 1) := by
  obtain ⟨K, KX, c⟩ := Y
  have Y : Fs K mg := ⟨⟨h, KX, G⟩, c.t.d, c.more⟩
  obtain ⟨fd, Fd⟩ := Y.c.def_ 16 (d := dd16) rfl
  have e := hmg.symm.trans (g_law Y)
  cases e
  have b := FunD.bindsA (ps := ["_law_script"]) Fd fun _ _ _ _ _ _ us hl => match us, hl with | [_], _ => rfl
  refine ⟨K, fd, KX, Y, fun s v => b s [v] rfl, fun P base => ?_⟩
  exact okL_law Y Fd
end UI.LW
open PySem PySem.W PySem.Calls PyProof.Rows
theorem PySem.Challenge.cw_undocells_k01_tokens_of_any_text_holds : PySem.Challenge.rw_undocells_k01_tokens_of_any_text.Holds := by
  w_on; o_law
  refine HandSHeadRun.head_any (r := OpenLaw.row PySem.Challenge.rw_undocells_k01_tokens_of_any_text) (q := view (OpenLaw.row PySem.Challenge.rw_undocells_k01_tokens_of_any_text).prog [29]) (H := UI.LW.hk) (ob := UI.LW.ob) (M := 6000) (loose := UI.LW.loose) (d := HandSHeadRun.topDef (OpenLaw.row PySem.Challenge.rw_undocells_k01_tokens_of_any_text).prog 29) (kwd := []) UI.LW.ob_eq
    (by kernel_rfl) (fun s => by kernel_rfl) UI.LW.run (by kernel_rfl) (by kernel_rfl) (by kernel_rfl) (by rfl) (by first | assumption | decide +kernel) (by decide +kernel) ⟨rfl, rfl, rfl, rfl, rfl, by decide +kernel⟩ ?hw ?hc
  case hw => w_witness2
  case hc =>
    refine UI.walk_law (l := PySem.Challenge.rw_undocells_k01_tokens_of_any_text) (n := 63) (k := 5) (x := "_law_script") (F0 := UI.LW.F_law) rfl (by decide) (by kernel_rfl) ⟨rfl, by decide, by decide⟩ (fun w mg fa h Y G hmg0 => ?_) UI.LW.pure_law
    have hmg : mg ("law" : PySem.Str) = some (.ref fa) := by
      have e : (HandSHeadRun.topDef (OpenLaw.row PySem.Challenge.rw_undocells_k01_tokens_of_any_text).prog 29).name = ("law" : PySem.Str) := by kernel_rfl
      rw [← e]
      exact hmg0
    obtain ⟨K, fd, KX, Y, hb, hF⟩ := UI.LW.says Y G hmg
    exact ⟨K, fd, KX, hb, hF⟩
